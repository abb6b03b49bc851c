import PyProof.Rows.All
import Wide.All
import OpenK.AllK
import Wide.FinOn
import HandS.ForMost
import HandS.Exc
import HandS.WordsExc
import HandS.NoneIn
import HandS.Wide
import HandS.Defaults
import HandS.Deep
import HandS.IsInst
import HandS.WordsDict
import HandS.DictComp
import HandS.Small
import HandS.SetFor
import HandS.Strs
import KE.SortData
import HandS.Conv
import HandS.Zip
import HandS.Style
import HandS.Ends
import HandS.HeadEnd
import HandS.Head0
import HandS.Head1
import HandS.Head2
import HandS.HeadHook1
import HandS.HeadHook2
import KE.KStateDown
import PySem.Challenge.RW_yieldturns_k01_standings
set_option Elab.async false
set_option linter.all false
set_option maxRecDepth 100000
set_option maxHeartbeats 4000000
/-! Y: a pure wp-calculus over data environments, over the hand layer. Part 1: data, what stands for data, states. -/
namespace Y
open PySem L2

/-- plain data -/
inductive D where
  | non | bl (b : Bool) | int (i : Int) | str (x : Str)
  | lst (xs : List D) | tup (xs : List D) | dk (kvs : List (Key × D)) | dt (kvs : List (List Key × D)) | opq (v : V)

mutual
/-- in the ghost heap F (frozen things alone) v stands for the data -/
inductive Rp (F : Hp) : V → D → Prop
  | non : Rp F .non .non
  | bl (b : Bool) : Rp F (.bl b) (.bl b)
  | int (i : Int) : Rp F (.int i) (.int i)
  | str (x : Str) : Rp F (.str x) (.str x)
  | opq (v : V) : Rp F v (.opq v)
  | lst {a : Addr} {vs : List V} {ds : List D} : F a = some (.lst vs) → RpAll F vs ds → Rp F (.ref a) (.lst ds)
  | tup {a : Addr} {vs : List V} {ds : List D} : F a = some (.tup vs) → RpAll F vs ds → Rp F (.ref a) (.tup ds)
  | dk {a : Addr} {vs : List (Key × V)} {ds : List (Key × D)} : F a = some (.dK vs) → RpK F vs ds → Rp F (.ref a) (.dk ds)
  | dt {a : Addr} {vs : List (List Key × V)} {ds : List (List Key × D)} : F a = some (.dT vs) → RpT F vs ds → Rp F (.ref a) (.dt ds)
inductive RpAll (F : Hp) : List V → List D → Prop
  | nil : RpAll F [] []
  | cons {v : V} {d : D} {vs : List V} {ds : List D} : Rp F v d → RpAll F vs ds → RpAll F (v :: vs) (d :: ds)
inductive RpK (F : Hp) : List (Key × V) → List (Key × D) → Prop
  | nil : RpK F [] []
  | cons {k : Key} {v : V} {d : D} {vs : List (Key × V)} {ds : List (Key × D)} : Rp F v d → RpK F vs ds → RpK F ((k, v) :: vs) ((k, d) :: ds)
inductive RpT (F : Hp) : List (List Key × V) → List (List Key × D) → Prop
  | nil : RpT F [] []
  | cons {k : List Key} {v : V} {d : D} {vs : List (List Key × V)} {ds : List (List Key × D)} : Rp F v d → RpT F vs ds → RpT F ((k, v) :: vs) ((k, d) :: ds)
end

/-- the one extends the other -/
def Ex (F F' : Hp) : Prop := ∀ a o, F a = some o → F' a = some o
theorem Ex.refl (F : Hp) : Ex F F := fun _ _ h => h
theorem Ex.trans {F G H : Hp} (a : Ex F G) (b : Ex G H) : Ex F H := fun x o h => b x o (a x o h)
theorem Ex.new {F : Hp} {p : Addr} {o : HO} (h : F p = none) : Ex F (upd F p o) := fun a u e => by
  rw [upd_ne (ne_of_none e h)]
  exact e

mutual
theorem Rp.mono {F F' : Hp} (x : Ex F F') : ∀ {v : V} {d : D}, Rp F v d → Rp F' v d
  | _, _, .non => .non
  | _, _, .bl b => .bl b
  | _, _, .int i => .int i
  | _, _, .str s => .str s
  | _, _, .opq v => .opq v
  | _, _, .lst h r => .lst (x _ _ h) (RpAll.mono x r)
  | _, _, .tup h r => .tup (x _ _ h) (RpAll.mono x r)
  | _, _, .dk h r => .dk (x _ _ h) (RpK.mono x r)
  | _, _, .dt h r => .dt (x _ _ h) (RpT.mono x r)
theorem RpAll.mono {F F' : Hp} (x : Ex F F') : ∀ {vs : List V} {ds : List D}, RpAll F vs ds → RpAll F' vs ds
  | _, _, .nil => .nil
  | _, _, .cons h r => .cons (Rp.mono x h) (RpAll.mono x r)
theorem RpK.mono {F F' : Hp} (x : Ex F F') : ∀ {vs : List (Key × V)} {ds : List (Key × D)}, RpK F vs ds → RpK F' vs ds
  | _, _, .nil => .nil
  | _, _, .cons h r => .cons (Rp.mono x h) (RpK.mono x r)
theorem RpT.mono {F F' : Hp} (x : Ex F F') : ∀ {vs : List (List Key × V)} {ds : List (List Key × D)}, RpT F vs ds → RpT F' vs ds
  | _, _, .nil => .nil
  | _, _, .cons h r => .cons (Rp.mono x h) (RpT.mono x r)
end
theorem RpAll.length {F : Hp} : ∀ {vs : List V} {ds : List D}, RpAll F vs ds → vs.length = ds.length
  | _, _, .nil => rfl
  | _, _, .cons _ r => congrArg (· + 1) (RpAll.length r)
theorem RpAll.append {F : Hp} : ∀ {vs ws : List V} {ds es : List D}, RpAll F vs ds → RpAll F ws es → RpAll F (vs ++ ws) (ds ++ es)
  | _, _, _, _, .nil, h => h
  | _, _, _, _, .cons a r, h => .cons a (RpAll.append r h)
theorem RpAll.get {F : Hp} : ∀ {vs : List V} {ds : List D} {i : Nat} {d : D}, RpAll F vs ds → ds[i]? = some d → ∃ v, vs[i]? = some v ∧ Rp F v d
  | _, _, _, _, .nil, h => by simp at h
  | _, _, 0, _, .cons a _, h => ⟨_, rfl, by simp at h; rw [← h]; exact a⟩
  | _, _, i + 1, d, .cons _ r, h => by
    obtain ⟨v, e, q⟩ := RpAll.get (i := i) (d := d) r (by simpa using h)
    exact ⟨v, by simpa using e, q⟩
theorem RpAll.get' {F : Hp} : ∀ {vs : List V} {ds : List D} {i : Nat} {v : V}, RpAll F vs ds → vs[i]? = some v → ∃ d, ds[i]? = some d ∧ Rp F v d
  | _, _, _, _, .nil, h => by simp at h
  | _, _, 0, _, .cons a _, h => ⟨_, rfl, by simp at h; rw [← h]; exact a⟩
  | _, _, i + 1, d, .cons _ r, h => by
    obtain ⟨v, e, q⟩ := RpAll.get' (i := i) r (by simpa using h)
    exact ⟨v, by simpa using e, q⟩
theorem RpAll.set {F : Hp} {v : V} {d : D} (h : Rp F v d) : ∀ {vs : List V} {ds : List D} (i : Nat), RpAll F vs ds → RpAll F (vs.set i v) (ds.set i d)
  | _, _, _, .nil => .nil
  | _, _, 0, .cons _ r => .cons h r
  | _, _, i + 1, .cons a r => .cons a (RpAll.set h i r)
theorem RpAll.take {F : Hp} : ∀ {vs : List V} {ds : List D} (n : Nat), RpAll F vs ds → RpAll F (vs.take n) (ds.take n)
  | _, _, 0, _ => .nil
  | _, _, _ + 1, .nil => .nil
  | _, _, n + 1, .cons a r => .cons a (RpAll.take n r)
theorem RpAll.drop {F : Hp} : ∀ {vs : List V} {ds : List D} (n : Nat), RpAll F vs ds → RpAll F (vs.drop n) (ds.drop n)
  | _, _, 0, r => r
  | _, _, _ + 1, .nil => .nil
  | _, _, n + 1, .cons _ r => RpAll.drop n r
theorem RpAll.eraseIdx {F : Hp} : ∀ {vs : List V} {ds : List D} (i : Nat), RpAll F vs ds → RpAll F (vs.eraseIdx i) (ds.eraseIdx i)
  | _, _, _, .nil => .nil
  | _, _, 0, .cons _ r => r
  | _, _, i + 1, .cons a r => .cons a (RpAll.eraseIdx i r)
theorem RpAll.rev {F : Hp} : ∀ {vs : List V} {ds : List D}, RpAll F vs ds → RpAll F vs.reverse ds.reverse
  | _, _, .nil => .nil
  | _, _, .cons a r => by
    rw [List.reverse_cons, List.reverse_cons]
    exact (RpAll.rev r).append (.cons a .nil)
theorem RpAll.dropLast {F : Hp} : ∀ {vs : List V} {ds : List D}, RpAll F vs ds → RpAll F vs.dropLast ds.dropLast
  | _, _, .nil => .nil
  | _, _, .cons _ .nil => .nil
  | _, _, .cons a (.cons b r) => .cons a (RpAll.dropLast (.cons b r))
theorem RpAll.ints {F : Hp} : ∀ ns : List Int, RpAll F (ns.map V.int) (ns.map D.int)
  | [] => .nil
  | n :: r => .cons (.int n) (RpAll.ints r)
theorem RpAll.of_ints {F : Hp} : ∀ {ns : List Int} {vs : List V}, RpAll F vs (ns.map D.int) → vs = ns.map V.int
  | [], _, .nil => rfl
  | n :: r, _, .cons h t => by
    cases h
    rw [RpAll.of_ints t]
    rfl
theorem RpAll.of_bls {F : Hp} : ∀ {ns : List Bool} {vs : List V}, RpAll F vs (ns.map D.bl) → vs = ns.map V.bl
  | [], _, .nil => rfl
  | n :: r, _, .cons h t => by
    cases h
    rw [RpAll.of_bls t]
    rfl

/-- what of F is new beside H0 -/
def nw (H0 F : Hp) : Hp := fun a => match H0 a with
  | none => F a
  | some _ => none
theorem nw_ex {H0 F : Hp} : Ex (nw H0 F) F := fun a o h => by
  unfold nw at h
  cases e : H0 a with
  | none => rw [e] at h; exact h
  | some u => rw [e] at h; cases h
theorem nw_mono {H0 F F' : Hp} (x : Ex F F') : Ex (nw H0 F) (nw H0 F') := fun a o h => by
  unfold nw at h ⊢
  cases e : H0 a with
  | none => rw [e] at h; exact x _ _ h
  | some u => rw [e] at h; cases h
theorem nw_at {H0 F : Hp} {a : Addr} (h : H0 a = none) : nw H0 F a = F a := by unfold nw; rw [h]

/-- the frame of a def's run: the written part, the entry's heap, what was frozen there, the object that it may change -/
structure Rl where
  K : PySem.W.Frag
  H0 : Hp
  F0 : Hp
  io : Option Addr
/-- a slot's content: data (fresh: all of it made in this run), a thing of one's own that may be changed, the argument that may be changed, any value, the script -/
inductive Sl where
  | dat (d : D) (fr : Bool) | own (o : D) (fr : Bool) | ino (o : D) | raw (v : V) | scr (ns : List Int) | old (d : D)
abbrev En := List (Option Sl)
@[reducible] def gt : En → Nat → Option Sl
  | [], _ => none
  | s :: _, 0 => s
  | _ :: r, n + 1 => gt r n
@[reducible] def st : En → Nat → Option Sl → En
  | [], _, _ => []
  | _ :: r, 0, s => s :: r
  | a :: r, n + 1, s => a :: st r n s
theorem st_length : ∀ (Γ : En) (i : Nat) (s : Option Sl), (st Γ i s).length = Γ.length
  | [], _, _ => rfl
  | _ :: _, 0, _ => rfl
  | _ :: r, n + 1, s => congrArg (· + 1) (st_length r n s)
theorem gt_st_same : ∀ {Γ : En} {i : Nat} {s : Option Sl}, i < Γ.length → gt (st Γ i s) i = s
  | [], _, _, h => absurd h (Nat.not_lt_zero _)
  | _ :: _, 0, _, _ => rfl
  | _ :: r, n + 1, s, h => gt_st_same (Γ := r) (i := n) (s := s) (Nat.lt_of_succ_lt_succ h)
theorem gt_st_ne : ∀ {Γ : En} {i j : Nat} {s : Option Sl}, j ≠ i → gt (st Γ i s) j = gt Γ j
  | [], _, _, _, _ => rfl
  | _ :: _, 0, 0, _, h => absurd rfl h
  | _ :: _, 0, _ + 1, _, _ => rfl
  | _ :: _, _ + 1, 0, _, _ => rfl
  | _ :: r, i + 1, j + 1, s, h => gt_st_ne (Γ := r) (i := i) (j := j) (s := s) (fun e => h (by rw [e]))
theorem gt_lt : ∀ {Γ : En} {i : Nat} {s : Sl}, gt Γ i = some s → i < Γ.length
  | [], _, _, h => by cases h
  | _ :: _, 0, _, _ => Nat.zero_lt_succ _
  | _ :: r, n + 1, s, h => Nat.succ_lt_succ (gt_lt (Γ := r) (i := n) h)

def fF (R : Rl) (F : Hp) : Bool → Hp
  | true => nw R.H0 F
  | false => F
theorem fF_ex {R : Rl} {F : Hp} : ∀ {fr : Bool}, Ex (fF R F fr) F
  | true => nw_ex
  | false => Ex.refl F
theorem fF_mono {R : Rl} {F F' : Hp} (x : Ex F F') : ∀ {fr : Bool}, Ex (fF R F fr) (fF R F' fr)
  | true => nw_mono x
  | false => x
abbrev Rpf (R : Rl) (F : Hp) (fr : Bool) (v : V) (d : D) : Prop := Rp (fF R F fr) v d
/-- flat things hold nothing -/
@[reducible] def flt : D → Bool
  | .non | .bl _ | .int _ | .str _ => true
  | _ => false
theorem flt_rp {F F' : Hp} {v : V} {d : D} (h : flt d = true) (r : Rp F v d) : Rp F' v d := by
  cases r <;> first | (cases h; done) | constructor
theorem Rp.fq {R : Rl} {F : Hp} {fr : Bool} {v : V} {d : D} (r : Rpf R F fr v d) : Rpf R F (fr || flt d) v d := by
  cases h : flt d with
  | true => exact flt_rp h r
  | false =>
    rw [Bool.or_false]
    exact r
/-- the object at p, its children in F -/
def TopH (F H : Hp) (p : Addr) : D → Prop
  | .lst ds => ∃ vs, H p = some (.lst vs) ∧ RpAll F vs ds
  | .dk ds => ∃ vs, H p = some (.dK vs) ∧ RpK F vs ds
  | .dt ds => ∃ vs, H p = some (.dT vs) ∧ RpT F vs ds
  | _ => False
theorem TopH.mono {F F' H H' : Hp} {p : Addr} {o : D} (x : Ex F F') (h : TopH F H p o) (k : ∀ u, H p = some u → H' p = some u) : TopH F' H' p o := by
  cases o with
  | lst ds => obtain ⟨vs, e, r⟩ := h; exact ⟨vs, k _ e, r.mono x⟩
  | dk ds => obtain ⟨vs, e, r⟩ := h; exact ⟨vs, k _ e, r.mono x⟩
  | dt ds => obtain ⟨vs, e, r⟩ := h; exact ⟨vs, k _ e, r.mono x⟩
  | _ => exact h.elim
theorem TopH.there {F H : Hp} {p : Addr} {o : D} (h : TopH F H p o) : ∃ u, H p = some u := by
  cases o with
  | lst ds => obtain ⟨vs, e, r⟩ := h; exact ⟨_, e⟩
  | dk ds => obtain ⟨vs, e, r⟩ := h; exact ⟨_, e⟩
  | dt ds => obtain ⟨vs, e, r⟩ := h; exact ⟨_, e⟩
  | _ => exact h.elim
def SlOk (R : Rl) (F H : Hp) (v : V) : Sl → Prop
  | .dat d fr => Rpf R F fr v d
  | .own o fr => ∃ p, v = .ref p ∧ F p = none ∧ R.H0 p = none ∧ TopH (fF R F fr) H p o
  | .ino o => ∃ p, v = .ref p ∧ R.io = some p ∧ TopH F H p o
  | .raw u => v = u
  | .scr ns => ∃ a, v = .ref a ∧ R.io ≠ some a ∧ SqL R.K R.H0 a (ns.map V.int)
  | .old d => Rp R.F0 v d
def owny : Sl → Bool
  | .own _ _ => true
  | .ino _ => true
  | _ => false
/-- a frozen thing stands: as it is, or (a dict) locked by a walk -/
def RdD (H : Hp) (a : Addr) (u : HO) : Prop := H a = some u ∨ (((∃ k, u = .dK k) ∨ ∃ k, u = .dT k) ∧ ∃ o, H a = some (.frz o u))
theorem RdD.rd {H : Hp} {a : Addr} {u : HO} (h : RdD H a u) : Rd H a u := by
  rcases h with h | ⟨_, h⟩
  · exact .inl h
  · exact .inr h
theorem RdD.ex {H H' : Hp} {a : Addr} {u : HO} (x : Ex H H') (h : RdD H a u) : RdD H' a u := by
  rcases h with h | ⟨q, o, h⟩
  · exact .inl (x _ _ h)
  · exact .inr ⟨q, o, x _ _ h⟩
theorem RdD.there {H : Hp} {a : Addr} {u : HO} (h : RdD H a u) : H a ≠ none := by
  rcases h with h | ⟨q, o, h⟩ <;> rw [h] <;> simp
/-- the state -/
structure Hd (R : Rl) (F H : Hp) (σ : St) (Γ : En) : Prop where
  sub : ∀ a u, F a = some u → RdD H a u
  base : ∀ a o, R.H0 a = some o → R.io ≠ some a → H a = some o
  f0 : ∀ a u, R.F0 a = some u → F a = some u
  new : ∀ a u, F a = some u → R.F0 a = some u ∨ R.H0 a = none
  iof : ∀ a, R.io = some a → F a = none ∧ R.H0 a ≠ none ∧ H a ≠ none
  len : Γ.length = σ.length
  sl : ∀ i s, gt Γ i = some s → ∃ v, σ[i]? = some (some v) ∧ SlOk R F H v s
  sep : ∀ i j s t p, gt Γ i = some s → gt Γ j = some t → owny s = true → owny t = true → σ[i]? = some (some (.ref p)) → σ[j]? = some (some (.ref p)) → i = j

section
variable {R : Rl} {F F' H H' : Hp} {σ : St} {Γ : En} {p : Addr} {o : HO}
theorem Hd.h0 (h : Hd R F H σ Γ) (e : H p = none) : R.H0 p = none ∨ R.io = some p := by
  cases q : R.H0 p with
  | none => exact .inl rfl
  | some u =>
    by_cases z : R.io = some p
    · exact .inr z
    · have := h.base p u q z
      rw [e] at this; cases this
theorem Hd.fNone (h : Hd R F H σ Γ) (e : H p = none) : F p = none := by
  cases q : F p with
  | none => rfl
  | some u => exact absurd e (h.sub p u q).there
/-- things are added, some of them frozen -/
theorem Hd.grow (h : Hd R F H σ Γ) (xH : Ex H H') (xF : Ex F F') (sub : ∀ a u, F' a = some u → RdD H' a u) (new : ∀ a u, F' a = some u → F a = some u ∨ H a = none) : Hd R F' H' σ Γ where
  sub := sub
  base := fun a u e n => xH a u (h.base a u e n)
  f0 := fun a u e => xF a u (h.f0 a u e)
  new := fun a u e => by
    rcases new a u e with z | z
    · exact h.new a u z
    · rcases h.h0 z with q | q
      · exact .inr q
      · exact absurd z (h.iof a q).2.2
  iof := fun a e => by
    obtain ⟨h1, h2, h3⟩ := h.iof a e
    refine ⟨?_, h2, fun z => ?_⟩
    · cases q : F' a with
      | none => rfl
      | some u =>
        rcases new a u q with z | z
        · rw [h1] at z; cases z
        · exact absurd z h3
    · cases q : H a with
      | none => exact h3 q
      | some u =>
        have := xH a u q
        rw [z] at this; cases this
  len := h.len
  sl := fun i s e => by
    obtain ⟨v, e1, q⟩ := h.sl i s e
    refine ⟨v, e1, ?_⟩
    cases s with
    | dat d fr => exact Rp.mono (fF_mono xF) q
    | own o fr =>
      obtain ⟨p, e2, e3, e4, t⟩ := q
      refine ⟨p, e2, ?_, e4, t.mono (fF_mono xF) fun u k => xH _ _ k⟩
      cases q : F' p with
      | none => rfl
      | some u =>
        obtain ⟨u2, e5⟩ := t.there
        rcases new p u q with z | z
        · rw [e3] at z; cases z
        · rw [e5] at z; cases z
    | ino o =>
      obtain ⟨p, e2, e3, t⟩ := q
      exact ⟨p, e2, e3, t.mono xF fun u k => xH _ _ k⟩
    | raw u => exact q
    | scr ns => exact q
    | old d => exact q
  sep := h.sep

theorem Hd.lt (h : Hd R F H σ Γ) {i : Nat} {s : Sl} (e : gt Γ i = some s) : i < σ.length := by
  rw [← h.len]
  exact gt_lt e
/-- a slot gets a thing that is not one's own -/
theorem Hd.set (h : Hd R F H σ Γ) {i : Nat} {v : V} {s : Sl} (ok : SlOk R F H v s) (hs : owny s = false) (hi : i < Γ.length) : Hd R F H (σ.set i (some v)) (st Γ i (some s)) where
  sub := h.sub
  base := h.base
  f0 := h.f0
  new := h.new
  iof := h.iof
  len := by rw [st_length, List.length_set]; exact h.len
  sl := fun j t e => by
    by_cases hj : j = i
    · subst hj
      rw [gt_st_same hi] at e
      cases e
      exact ⟨v, List.getElem?_set_self (by rw [← h.len]; exact hi), ok⟩
    · rw [gt_st_ne hj] at e
      obtain ⟨u, e1, q⟩ := h.sl j t e
      exact ⟨u, by rw [List.getElem?_set_ne (Ne.symm hj)]; exact e1, q⟩
  sep := fun j k s1 s2 p e1 e2 o1 o2 p1 p2 => by
    by_cases hj : j = i
    · subst hj
      rw [gt_st_same hi] at e1
      cases e1
      rw [hs] at o1; cases o1
    · by_cases hk : k = i
      · subst hk
        rw [gt_st_same hi] at e2
        cases e2
        rw [hs] at o2; cases o2
      · rw [gt_st_ne hj] at e1
        rw [gt_st_ne hk] at e2
        rw [List.getElem?_set_ne (Ne.symm hj)] at p1
        rw [List.getElem?_set_ne (Ne.symm hk)] at p2
        exact h.sep j k s1 s2 p e1 e2 o1 o2 p1 p2
/-- a new object of one's own, put into a slot -/
theorem Hd.setOwn (h : Hd R F H σ Γ) {i : Nat} {p : Addr} {o : D} {fr : Bool} (ok : SlOk R F H (.ref p) (.own o fr)) (hp : ∀ j t, gt Γ j = some t → owny t = true → σ[j]? ≠ some (some (.ref p))) (hi : i < Γ.length) :
    Hd R F H (σ.set i (some (.ref p))) (st Γ i (some (.own o fr))) where
  sub := h.sub
  base := h.base
  f0 := h.f0
  new := h.new
  iof := h.iof
  len := by rw [st_length, List.length_set]; exact h.len
  sl := fun j t e => by
    by_cases hj : j = i
    · subst hj
      rw [gt_st_same hi] at e
      cases e
      exact ⟨_, List.getElem?_set_self (by rw [← h.len]; exact hi), ok⟩
    · rw [gt_st_ne hj] at e
      obtain ⟨u, e1, q⟩ := h.sl j t e
      exact ⟨u, by rw [List.getElem?_set_ne (Ne.symm hj)]; exact e1, q⟩
  sep := fun j k s1 s2 q e1 e2 o1 o2 p1 p2 => by
    have hiσ : i < σ.length := by rw [← h.len]; exact hi
    by_cases hj : j = i
    · by_cases hk : k = i
      · rw [hj, hk]
      · exfalso
        rw [gt_st_ne hk] at e2
        rw [List.getElem?_set_ne (Ne.symm hk)] at p2
        rw [hj, List.getElem?_set_self hiσ] at p1
        cases p1
        exact hp k s2 e2 o2 p2
    · by_cases hk : k = i
      · exfalso
        rw [gt_st_ne hj] at e1
        rw [List.getElem?_set_ne (Ne.symm hj)] at p1
        rw [hk, List.getElem?_set_self hiσ] at p2
        cases p2
        exact hp j s1 e1 o1 p1
      · rw [gt_st_ne hj] at e1
        rw [gt_st_ne hk] at e2
        rw [List.getElem?_set_ne (Ne.symm hj)] at p1
        rw [List.getElem?_set_ne (Ne.symm hk)] at p2
        exact h.sep j k s1 s2 q e1 e2 o1 o2 p1 p2
/-- a slot is forgotten -/
theorem Hd.forget (h : Hd R F H σ Γ) (i : Nat) : Hd R F H σ (st Γ i none) where
  sub := h.sub
  base := h.base
  f0 := h.f0
  new := h.new
  iof := h.iof
  len := by rw [st_length]; exact h.len
  sl := fun j t e => by
    by_cases hj : j = i
    · subst hj
      by_cases hl : j < Γ.length
      · rw [gt_st_same hl] at e; cases e
      · have := gt_lt e
        rw [st_length] at this
        exact absurd this hl
    · rw [gt_st_ne hj] at e
      exact h.sl j t e
  sep := fun j k s1 s2 q e1 e2 o1 o2 p1 p2 => by
    have key : ∀ {j : Nat} {s : Sl}, gt (st Γ i none) j = some s → gt Γ j = some s := fun {j s} e => by
      by_cases hj : j = i
      · subst hj
        by_cases hl : j < Γ.length
        · rw [gt_st_same hl] at e; cases e
        · have := gt_lt e
          rw [st_length] at this
          exact absurd this hl
      · rw [gt_st_ne hj] at e
        exact e
    exact h.sep j k s1 s2 q (key e1) (key e2) o1 o2 p1 p2
theorem Hd.sig (h : Hd R F H σ Γ) {σ' : St} (hl : σ'.length = σ.length) (k : ∀ i s v, gt Γ i = some s → σ[i]? = some (some v) → σ'[i]? = some (some v)) : Hd R F H σ' Γ where
  sub := h.sub
  base := h.base
  f0 := h.f0
  new := h.new
  iof := h.iof
  len := h.len.trans hl.symm
  sl := fun j t e => by
    obtain ⟨v, e1, q⟩ := h.sl j t e
    exact ⟨v, k j t v e e1, q⟩
  sep := fun i j s1 s2 q e1 e2 o1 o2 p1 p2 => by
    obtain ⟨v1, z1, _⟩ := h.sl i s1 e1
    obtain ⟨v2, z2, _⟩ := h.sl j s2 e2
    have y1 := k i s1 v1 e1 z1
    have y2 := k j s2 v2 e2 z2
    rw [p1] at y1
    rw [p2] at y2
    cases y1
    cases y2
    exact h.sep i j s1 s2 q e1 e2 o1 o2 z1 z2
/-- the object of one's own in slot i is changed (or the argument that may be changed) -/
theorem Hd.mut (h : Hd R F H σ Γ) {i : Nat} {p : Addr} {u : HO} {s t : Sl} (hs : gt Γ i = some s) (os : owny s = true) (hσ : σ[i]? = some (some (.ref p))) (ok : SlOk R F (upd H p u) (.ref p) t) (ot : owny t = true)
    (hF : F p = none) (hb : R.H0 p = none ∨ R.io = some p) : Hd R F (upd H p u) σ (st Γ i (some t)) where
  sub := fun a w e => by
    have ne : a ≠ p := fun z => by rw [z, hF] at e; cases e
    rcases h.sub a w e with q | ⟨q, o, q2⟩
    · exact .inl (by rw [upd_ne ne]; exact q)
    · exact .inr ⟨q, o, by rw [upd_ne ne]; exact q2⟩
  base := fun a o e n => by
    have ne : a ≠ p := fun z => by
      rcases hb with hb | hb
      · rw [z, hb] at e; cases e
      · exact n (by rw [z]; exact hb)
    rw [upd_ne ne]
    exact h.base a o e n
  f0 := h.f0
  new := h.new
  iof := fun a e => by
    obtain ⟨h1, h2, h3⟩ := h.iof a e
    refine ⟨h1, h2, ?_⟩
    by_cases hp : a = p
    · rw [hp, upd_same]; simp
    · rw [upd_ne hp]; exact h3
  len := by rw [st_length]; exact h.len
  sl := fun j t2 e => by
    by_cases hj : j = i
    · subst hj
      rw [gt_st_same (gt_lt hs)] at e
      cases e
      exact ⟨_, hσ, ok⟩
    · rw [gt_st_ne hj] at e
      obtain ⟨v, e1, q⟩ := h.sl j t2 e
      refine ⟨v, e1, ?_⟩
      cases t2 with
      | dat d fr => exact q
      | raw u => exact q
      | scr ns => exact q
      | old d => exact q
      | own o fr =>
        obtain ⟨p2, e2, e3, e4, tq⟩ := q
        have ne : p2 ≠ p := fun z => hj (h.sep j i _ _ p e hs rfl os (by rw [e1, e2, z]) hσ)
        exact ⟨p2, e2, e3, e4, tq.mono (Ex.refl _) fun u2 k => by rw [upd_ne ne]; exact k⟩
      | ino o =>
        obtain ⟨p2, e2, e3, tq⟩ := q
        have ne : p2 ≠ p := fun z => hj (h.sep j i _ _ p e hs rfl os (by rw [e1, e2, z]) hσ)
        exact ⟨p2, e2, e3, tq.mono (Ex.refl _) fun u2 k => by rw [upd_ne ne]; exact k⟩
  sep := fun j k s1 s2 q e1 e2 o1 o2 p1 p2 => by
    have key : ∀ {j : Nat} {s2 : Sl}, gt (st Γ i (some t)) j = some s2 → owny s2 = true → ∃ s3, gt Γ j = some s3 ∧ owny s3 = true := fun {j s2} e o => by
      by_cases hj : j = i
      · subst hj
        exact ⟨s, hs, os⟩
      · rw [gt_st_ne hj] at e
        exact ⟨s2, e, o⟩
    obtain ⟨t1, a1, b1⟩ := key e1 o1
    obtain ⟨t2, a2, b2⟩ := key e2 o2
    exact h.sep j k t1 t2 q a1 a2 b1 b2 p1 p2
/-- the thing of one's own in slot i is frozen -/
theorem Hd.freeze (h : Hd R F H σ Γ) {i : Nat} {p : Addr} {o : D} {fr : Bool} (hs : gt Γ i = some (.own o fr)) (hσ : σ[i]? = some (some (.ref p))) :
    ∃ F', (Ex F F' ∧ ∀ a u, F' a = some u → F a = some u ∨ a = p) ∧ Rpf R F' fr (.ref p) o ∧ Hd R F' H σ (st Γ i (some (.dat o fr))) := by
  obtain ⟨v, e1, p', e2, e3, e4, tq⟩ := h.sl i _ hs
  rw [hσ] at e1
  cases e1
  cases e2
  have xF : ∀ u, Ex F (upd F p u) := fun u => Ex.new e3
  have main : ∀ u, H p = some u → (Rpf R (upd F p u) fr (.ref p) o) → ∃ F', (Ex F F' ∧ ∀ a u, F' a = some u → F a = some u ∨ a = p) ∧ Rpf R F' fr (.ref p) o ∧ Hd R F' H σ (st Γ i (some (.dat o fr))) := fun u hu r => by
    refine ⟨upd F p u, ⟨xF u, fun a w e => by
      by_cases ha : a = p
      · exact .inr ha
      · rw [upd_ne ha] at e
        exact .inl e⟩, r, ?_⟩
    have hnio : R.io ≠ some p := fun z => (h.iof p z).2.1 e4
    exact {
      sub := fun a w e => by
        by_cases ha : a = p
        · rw [ha, upd_same] at e
          cases e
          rw [ha]
          exact .inl hu
        · rw [upd_ne ha] at e
          exact h.sub a w e
      base := h.base
      f0 := fun a w e => xF u _ _ (h.f0 a w e)
      new := fun a w e => by
        by_cases ha : a = p
        · rw [ha]; exact .inr e4
        · rw [upd_ne ha] at e
          exact h.new a w e
      iof := fun a e => by
        obtain ⟨h1, h2, h3⟩ := h.iof a e
        refine ⟨?_, h2, h3⟩
        rw [upd_ne (fun z => hnio (by rw [← z]; exact e))]
        exact h1
      len := by rw [st_length]; exact h.len
      sl := fun j t2 e => by
        by_cases hj : j = i
        · subst hj
          rw [gt_st_same (gt_lt hs)] at e
          cases e
          exact ⟨_, hσ, r⟩
        · rw [gt_st_ne hj] at e
          obtain ⟨v, e1, q⟩ := h.sl j t2 e
          refine ⟨v, e1, ?_⟩
          cases t2 with
          | dat d fr2 => exact Rp.mono (fF_mono (xF u)) q
          | raw u => exact q
          | scr ns => exact q
          | old d => exact q
          | own o2 fr2 =>
            obtain ⟨p2, e2, e3', e4', tq2⟩ := q
            have ne : p2 ≠ p := fun z => hj (h.sep j i _ _ p e hs rfl rfl (by rw [e1, e2, z]) hσ)
            exact ⟨p2, e2, by rw [upd_ne ne]; exact e3', e4', tq2.mono (fF_mono (xF u)) fun u2 k => k⟩
          | ino o2 =>
            obtain ⟨p2, e2, e3', tq2⟩ := q
            exact ⟨p2, e2, e3', tq2.mono (xF u) fun u2 k => k⟩
      sep := fun j k s1 s2 q e1 e2 o1 o2 p1 p2 => by
        by_cases hj : j = i
        · subst hj
          rw [gt_st_same (gt_lt hs)] at e1
          cases e1
          cases o1
        · by_cases hk : k = i
          · subst hk
            rw [gt_st_same (gt_lt hs)] at e2
            cases e2
            cases o2
          · rw [gt_st_ne hj] at e1
            rw [gt_st_ne hk] at e2
            exact h.sep j k s1 s2 q e1 e2 o1 o2 p1 p2 }
  have at_ : ∀ u, fF R (upd F p u) fr p = some u := fun u => by
    cases fr with
    | true => show nw R.H0 (upd F p u) p = some u; rw [nw_at e4, upd_same]
    | false => exact upd_same
  cases o with
  | lst ds =>
    obtain ⟨vs, e, r⟩ := tq
    exact main _ e (.lst (at_ _) (r.mono (fF_mono (xF _))))
  | dk ds =>
    obtain ⟨vs, e, r⟩ := tq
    exact main _ e (.dk (at_ _) (r.mono (fF_mono (xF _))))
  | dt ds =>
    obtain ⟨vs, e, r⟩ := tq
    exact main _ e (.dt (at_ _) (r.mono (fF_mono (xF _))))
  | _ => exact tq.elim
end

/-- a is the place of a thing of one's own -/
def Ow (σ : L2.St) (Γ : En) (a : Addr) : Prop := ∃ j t, gt Γ j = some t ∧ owny t = true ∧ σ[j]? = some (some (.ref a))
/-- what a step leaves: frozen things, all but things of one's own; no new thing of one's own; what is frozen anew was new, or one's own -/
structure Nx (σ : L2.St) (F H : Hp) (Γ : En) (F' H' : Hp) (Γ' : En) : Prop where
  ex : Ex F F'
  keep : ∀ a o, H a = some o → ¬ Ow σ Γ a → H' a = some o
  ow : ∀ a, Ow σ Γ' a → Ow σ Γ a
  new : ∀ a u, F' a = some u → F a = some u ∨ H a = none ∨ Ow σ Γ a
  stay : ∀ a, H a ≠ none → H' a ≠ none
theorem Nx.refl {σ : L2.St} {F H : Hp} {Γ : En} : Nx σ F H Γ F H Γ := ⟨Ex.refl F, fun _ _ e _ => e, fun _ h => h, fun _ _ e => .inl e, fun _ h => h⟩
theorem Nx.trans {σ : L2.St} {F H F1 H1 F2 H2 : Hp} {Γ Γ1 Γ2 : En} (a : Nx σ F H Γ F1 H1 Γ1) (b : Nx σ F1 H1 Γ1 F2 H2 Γ2) : Nx σ F H Γ F2 H2 Γ2 :=
  ⟨a.ex.trans b.ex, fun x o e n => b.keep x o (a.keep x o e n) fun z => n (a.ow x z), fun x z => a.ow x (b.ow x z), fun x u e => by
    rcases b.new x u e with q | q | q
    · exact a.new x u q
    · cases z : H x with
      | none => exact .inr (.inl rfl)
      | some o =>
        by_cases ho : Ow σ Γ x
        · exact .inr (.inr ho)
        · have z2 := a.keep x o z ho
          rw [q] at z2
          cases z2
    · exact .inr (.inr (a.ow x q)), fun x h => b.stay x (a.stay x h)⟩
theorem Nx.grow {σ : L2.St} {F H F1 H1 : Hp} {Γ : En} (a : Ex F F1) (b : Ex H H1) (new : ∀ a u, F1 a = some u → F a = some u ∨ H a = none) : Nx σ F H Γ F1 H1 Γ := ⟨a, fun x o e _ => b x o e, fun _ h => h, fun x u e => by
  rcases new x u e with q | q
  · exact .inl q
  · exact .inr (.inl q), fun x h z => by
  cases q : H x with
  | none => exact h q
  | some u =>
    have := b x u q
    rw [z] at this; cases this⟩
theorem Ow.of_st {σ : L2.St} {Γ : En} {i : Nat} {s : Option Sl} {a : Addr} (h : Ow σ (st Γ i s) a) (hs : ∀ t, s = some t → owny t = true → Ow σ Γ a ∨ σ[i]? ≠ some (some (.ref a))) : Ow σ Γ a := by
  obtain ⟨j, t, e1, e2, e3⟩ := h
  by_cases hj : j = i
  · subst hj
    by_cases hl : j < Γ.length
    · rw [gt_st_same hl] at e1
      rcases hs t e1 e2 with q | q
      · exact q
      · exact absurd e3 q
    · have := gt_lt e1
      rw [st_length] at this
      exact absurd this hl
  · rw [gt_st_ne hj] at e1
    exact ⟨j, t, e1, e2, e3⟩
/-- a thing of one's own is frozen -/
theorem Nx.froze {σ : L2.St} {F H F1 : Hp} {Γ : En} {i : Nat} {p : Addr} {o : D} {fr : Bool} (hs : gt Γ i = some (.own o fr)) (hσ : σ[i]? = some (some (.ref p))) (a : Ex F F1 ∧ ∀ a u, F1 a = some u → F a = some u ∨ a = p) : Nx σ F H Γ F1 H (st Γ i (some (.dat o fr))) :=
  ⟨a.1, fun _ _ e _ => e, fun x z => z.of_st fun t e1 e2 => (by cases e1; cases e2), fun x u e => by
    rcases a.2 x u e with q | q
    · exact .inl q
    · rw [q]; exact .inr (.inr ⟨i, _, hs, rfl, hσ⟩), fun _ h => h⟩
/-- an object that is neither frozen nor one's own nor the entry's may change -/
theorem Hd.poke {R : Rl} {F H : Hp} {σ : L2.St} {Γ : En} (h : Hd R F H σ Γ) {p : Addr} {u : HO} (hF : F p = none) (ho : ¬ Ow σ Γ p) (h0 : R.H0 p = none) : Hd R F (upd H p u) σ Γ where
  sub := fun a w e => by
    have ne : a ≠ p := fun z => by rw [z, hF] at e; cases e
    rcases h.sub a w e with q | ⟨q, o, q2⟩
    · exact .inl (by rw [upd_ne ne]; exact q)
    · exact .inr ⟨q, o, by rw [upd_ne ne]; exact q2⟩
  base := fun a o e n => by
    have ne : a ≠ p := fun z => by rw [z, h0] at e; cases e
    rw [upd_ne ne]
    exact h.base a o e n
  f0 := h.f0
  new := h.new
  iof := fun a e => by
    obtain ⟨h1, h2, h3⟩ := h.iof a e
    have ne : a ≠ p := fun z => h2 (by rw [z]; exact h0)
    exact ⟨h1, h2, by rw [upd_ne ne]; exact h3⟩
  len := h.len
  sl := fun j t e => by
    obtain ⟨v, e1, q⟩ := h.sl j t e
    refine ⟨v, e1, ?_⟩
    cases t with
    | dat d fr => exact q
    | raw u => exact q
    | scr ns => exact q
    | old d => exact q
    | own o fr =>
      obtain ⟨p2, e2, e3, e4, tq⟩ := q
      have ne : p2 ≠ p := fun z => ho ⟨j, _, e, rfl, by rw [e1, e2, z]⟩
      exact ⟨p2, e2, e3, e4, tq.mono (Ex.refl _) fun u2 k => by rw [upd_ne ne]; exact k⟩
    | ino o =>
      obtain ⟨p2, e2, e3, tq⟩ := q
      have ne : p2 ≠ p := fun z => ho ⟨j, _, e, rfl, by rw [e1, e2, z]⟩
      exact ⟨p2, e2, e3, tq.mono (Ex.refl _) fun u2 k => by rw [upd_ne ne]; exact k⟩
  sep := h.sep
end Y

/-! Y: part 2: the judgements, expressions. -/
namespace Y
open PySem L2

abbrev EX := Str → D → Prop
abbrev WE := EX → En → (D → Bool → En → Prop) → Prop
abbrev WT := EX → En → (Bool → En → Prop) → Prop
abbrev WA := EX → En → (List (D × Bool) → En → Prop) → Prop
/-- the field of an own exception, by its class -/
def fieldOf (c : Str) : Str := if c = "InvalidNumber" then "number" else if c = "InvalidArrows" ∨ c = "InvalidLines" ∨ c = "InvalidTurns" ∨ c = "UnlikeNets" then "index" else "point"
/-- what is wanted of an exception, from what is told of it -/
def Lk (mg : Str → Option Value) (R : Rl) (E : XK) (ex : EX) : Prop :=
  ∀ (c : Str) (C dd : Addr) (v : V) (d : D) (F' H' : Hp), mg c = some (.ref C) → ex c d → (∀ a o, R.H0 a = some o → R.io ≠ some a → H' a = some o) → Ex R.F0 F' → (∀ a u, F' a = some u → RdD H' a u) → Rp F' v d →
    H' dd = some (.xd [(fieldOf c, v)]) → E (.ref C) (some dd) H'
structure Go (X : Cx) (R : Rl) (E : XK) (ex : EX) : Prop where
  K : R.K = X.K
  lk : Lk X.mg R E ex
def EQ (R : Rl) (F H : Hp) (σ : L2.St) (Γ : En) (Q : D → Bool → En → Prop) (Qt : VK) : Prop := ∀ v F' H' Γ' d fr, Hd R F' H' σ Γ' → Nx σ F H Γ F' H' Γ' → Rpf R F' fr v d → Q d fr Γ' → Qt v H'
def TQ (R : Rl) (F H : Hp) (σ : L2.St) (Γ : En) (Q : Bool → En → Prop) (Qt : Bool → Hp → Prop) : Prop := ∀ b F' H' Γ', Hd R F' H' σ Γ' → Nx σ F H Γ F' H' Γ' → Q b Γ' → Qt b H'
inductive RpL (R : Rl) (F : Hp) : List V → List (D × Bool) → Prop
  | nil : RpL R F [] []
  | cons {v : V} {d : D} {fr : Bool} {vs : List V} {ds : List (D × Bool)} : Rpf R F fr v d → RpL R F vs ds → RpL R F (v :: vs) ((d, fr) :: ds)
theorem RpL.mono {R : Rl} {F F' : Hp} (x : Ex F F') : ∀ {vs : List V} {ds : List (D × Bool)}, RpL R F vs ds → RpL R F' vs ds
  | _, _, .nil => .nil
  | _, _, .cons h r => .cons (h.mono (fF_mono x)) (r.mono x)
theorem RpL.all {R : Rl} {F : Hp} : ∀ {vs : List V} {ds : List (D × Bool)}, RpL R F vs ds → RpAll (fF R F (ds.all (·.2))) vs (ds.map (·.1))
  | _, _, .nil => .nil
  | _, _, .cons (d := d) (fr := fr) (ds := ds) h r => by
    have r' := r.all
    have e : (((d, fr) :: ds).all (·.2)) = (fr && ds.all (·.2)) := rfl
    rw [e]
    cases fr with
    | true =>
      rw [Bool.true_and]
      refine .cons ?_ r'
      cases hq : ds.all (·.2) with
      | true => exact h
      | false => exact h.mono nw_ex
    | false =>
      rw [Bool.false_and]
      exact .cons h (r'.mono fF_ex)
theorem RpL.length {R : Rl} {F : Hp} : ∀ {vs : List V} {ds : List (D × Bool)}, RpL R F vs ds → vs.length = ds.length
  | _, _, .nil => rfl
  | _, _, .cons _ r => congrArg (· + 1) r.length
def AQ (R : Rl) (F H : Hp) (σ : L2.St) (Γ : En) (Q : List (D × Bool) → En → Prop) (Qt : List V → Hp → Prop) : Prop := ∀ vs F' H' Γ' ds, Hd R F' H' σ Γ' → Nx σ F H Γ F' H' Γ' → RpL R F' vs ds → Q ds Γ' → Qt vs H'

def SE (X : Cx) (E : XK) (te : TE) (w : WE) : Prop := ∀ (R : Rl) (F H : Hp) (σ : L2.St) (Γ : En) (ex : EX) Q Qt, Go X R E ex → Hd R F H σ Γ → EQ R F H σ Γ Q Qt → w ex Γ Q → te σ H Qt
def ST (X : Cx) (E : XK) (te : TT) (w : WT) : Prop := ∀ (R : Rl) (F H : Hp) (σ : L2.St) (Γ : En) (ex : EX) Q Qt, Go X R E ex → Hd R F H σ Γ → TQ R F H σ Γ Q Qt → w ex Γ Q → te σ H Qt
def SA (X : Cx) (E : XK) (te : TA) (w : WA) : Prop := ∀ (R : Rl) (F H : Hp) (σ : L2.St) (Γ : En) (ex : EX) Q Qt, Go X R E ex → Hd R F H σ Γ → AQ R F H σ Γ Q Qt → w ex Γ Q → te σ H Qt
def PWE (X : Cx) (E : XK) (e : Expr) (w : WE) : Prop := ∃ te : TE, PE X e te ∧ SE X E te w
def PWT (X : Cx) (E : XK) (e : Expr) (w : WT) : Prop := ∃ te : TT, PT X e te ∧ ST X E te w
def PWA (X : Cx) (E : XK) (es : List Expr) (w : WA) : Prop := ∃ te : TA, PA X es te ∧ SA X E te w

section
variable {X : Cx} {E : XK} {e a b c : Expr} {es : List Expr} {pos : Pos} {wa wb wc : WE}

/-! ### names, constants -/
@[reducible] def wVar (i : Nat) : WE := fun _ Γ Q => match gt Γ i with
  | some (.dat d fr) => Q d (fr || flt d) Γ
  | some (.own o fr) => Q o fr (st Γ i (some (.dat o fr)))
  | some (.raw v) => Q (.opq v) false Γ
  | some (.old d) => Q d (flt d) Γ
  | _ => False
theorem pw_var (i : Nat) {x : Str} (hN : X.N[i]? = some x := by rfl) (hv : Vis X.env.scope x := by first | exact Or.inl rfl | exact Or.inr (Or.inl rfl) | exact Or.inr (Or.inr rfl)) (hd : (x == ("__debug__" : Str)) = false := by decide)
    (hcd : (x == ("__classdict__" : Str)) = false := by decide) : PWE X E (.Name x pos) (wVar i) := by
  refine ⟨tVar i, pe_var hN hv hd hcd, fun R F H σ Γ ex Q Qt g h eq w => ?_⟩
  unfold wVar at w
  cases q : gt Γ i with
  | none => rw [q] at w; exact w.elim
  | some s =>
    rw [q] at w
    obtain ⟨v, e1, ok⟩ := h.sl i s q
    cases s with
    | dat d fr => exact ⟨v, e1, eq v F H Γ d _ h Nx.refl (Rp.fq (R := R) (fr := fr) ok) w⟩
    | own o fr =>
      obtain ⟨p, e2, _⟩ := ok
      subst e2
      obtain ⟨F', xF, r, h'⟩ := h.freeze q e1
      exact ⟨_, e1, eq _ F' H _ o fr h' (.froze q e1 xF) r w⟩
    | raw u =>
      have e2 : v = u := ok
      subst e2
      exact ⟨v, e1, eq v F H Γ (.opq v) false h Nx.refl (.opq v) w⟩
    | ino o => exact w.elim
    | scr ns => exact w.elim
    | old d => exact ⟨v, e1, eq v F H Γ d _ h Nx.refl (Rp.fq (R := R) (fr := false) (Rp.mono h.f0 ok)) w⟩
@[reducible] def wC (d : D) : WE := fun _ Γ Q => Q d true Γ
def flatD : D → V → Prop
  | .non, .non => True
  | .bl b, .bl c => b = c
  | .int i, .int j => i = j
  | .str x, .str y => x = y
  | _, _ => False
theorem flatD.rp {F : Hp} : ∀ {d : D} {v : V}, flatD d v → Rp F v d
  | .non, .non, _ => .non
  | .bl b, .bl c, h => by cases (show b = c from h); exact .bl b
  | .int b, .int c, h => by cases (show b = c from h); exact .int b
  | .str b, .str c, h => by cases (show b = c from h); exact .str b
theorem pw_c {v : V} {d : D} (h : PE X e (tC v)) (hf : flatD d v) : PWE X E e (wC d) :=
  ⟨tC v, h, fun R F H σ Γ ex Q Qt g h eq w => eq v F H Γ d true h Nx.refl (flatD.rp hf) w⟩
theorem pw_int {i j} : PWE X E (.Constant (.int i) j pos) (wC (.int i)) := pw_c pe_int rfl
theorem pw_bl {b j} : PWE X E (.Constant (.bool b) j pos) (wC (.bl b)) := pw_c pe_bl rfl
theorem pw_non {j} : PWE X E (.Constant .none j pos) (wC .non) := pw_c pe_non trivial
theorem pw_str {x j} : PWE X E (.Constant (.str x) j pos) (wC (.str x)) := pw_c pe_str rfl
/-- a module's whole number -/
theorem pw_gint {x : Str} {i : Int} (hm : ∃ t, X.mg x = some (.int i t)) (hg : Gl X x := by rfl) (hd : (x == ("__debug__" : Str)) = false := by decide) : PWE X E (.Name x pos) (wC (.int i)) := by
  obtain ⟨t, hm⟩ := hm
  exact pw_c (pe_glob (v := .int i) hg hm ⟨t, rfl⟩ hd) rfl

/-! ### operators -/
abbrev K2 := D → Bool → D → Bool → (D → Bool → Prop) → Prop
def KQ (R : Rl) (F H : Hp) (σ : L2.St) (Γ : En) (Q : D → Bool → Prop) (Qt : VK) : Prop := ∀ v F' H' d fr, Hd R F' H' σ Γ → Nx σ F H Γ F' H' Γ → Rpf R F' fr v d → Q d fr → Qt v H'
def OK2 (X : Cx) (r : R2) (k : K2) : Prop := ∀ (R : Rl) (F H : Hp) (σ : L2.St) (Γ : En) x y dx fx dy fy Q Qt, R.K = X.K → Hd R F H σ Γ → Rpf R F fx x dx → Rpf R F fy y dy → KQ R F H σ Γ Q Qt → k dx fx dy fy Q → r x y H Qt
@[reducible] def wOp (k : K2) (wa wb : WE) : WE := fun ex Γ Q => wa ex Γ fun x fx Γ1 => wb ex Γ1 fun y fy Γ2 => k x fx y fy fun z fz => Q z fz Γ2
theorem ok_op {r : R2} {k : K2} (hk : OK2 X r k) {ta tb : TE} (ka : SE X E ta wa)
    (kb : SE X E tb wb) {R : Rl} {F H : Hp} {σ : L2.St} {Γ : En} {ex : EX} {Q Qt}
    (g : Go X R E ex) (h : Hd R F H σ Γ) (eq : EQ R F H σ Γ Q Qt) (w : wOp k wa wb ex Γ Q) : tOp r ta tb σ H Qt :=
  ka R F H σ Γ ex _ _ g h (fun x F1 H1 Γ1 dx fx h1 x1 r1 w1 => kb R F1 H1 σ Γ1 ex _ _ g h1 (fun y F2 H2 Γ2 dy fy h2 x2 r2 w2 =>
    hk R F2 H2 σ Γ2 x y dx fx dy fy _ Qt g.K h2 (r1.mono (fF_mono x2.ex)) r2 (fun v F3 H3 d fr h3 x3 r3 q => eq v F3 H3 Γ2 d fr h3 ((x1.trans x2).trans x3) r3 q) w2) w1) w
theorem pw_bin {op : Operator} {r : R2} {k : K2} (o : OpR X (binaryOp op) r ∧ OK2 X r k) (ha : PWE X E a wa) (hb : PWE X E b wb) : PWE X E (.BinOp a op b pos) (wOp k wa wb) := by
  obtain ⟨ta, pa, ka⟩ := ha
  obtain ⟨tb, pb, kb⟩ := hb
  exact ⟨tOp r ta tb, pe_op o.1 pa pb, fun R F H σ Γ ex Q Qt g h eq w => ok_op o.2 ka kb g h eq w⟩
theorem pw_cmp {op : CmpOp} {r : R2} {k : K2} (o : OpR X (compareOp op) r ∧ OK2 X r k) (ha : PWE X E a wa) (hb : PWE X E b wb) (hm : behindInMarks op b = false := by first | exact nomark _ | rfl) : PWE X E (.Compare a [op] [b] pos) (wOp k wa wb) := by
  obtain ⟨ta, pa, ka⟩ := ha
  obtain ⟨tb, pb, kb⟩ := hb
  exact ⟨tOp r ta tb, pe_cmpR o.1 pa pb hm, fun R F H σ Γ ex Q Qt g h eq w => ok_op o.2 ka kb g h eq w⟩
@[reducible] def wTst (we : WE) : WT := fun ex Γ Q => we ex Γ fun d _ Γ' => match d with
  | .bl b => Q b Γ'
  | _ => False
theorem ok_tst {te : TE} {w : WE} (k : SE X E te w) {R : Rl} {F H : Hp} {σ : L2.St} {Γ : En} {ex : EX} {Q} {Qt : Bool → Hp → Prop}
    (g : Go X R E ex) (h : Hd R F H σ Γ) (eq : TQ R F H σ Γ Q Qt) (hw : wTst w ex Γ Q) : te σ H fun x H' => ∃ c, x = .bl c ∧ Qt c H' :=
  k R F H σ Γ ex _ _ g h (fun v F1 H1 Γ1 d fr h1 x1 r1 q => by
    cases d with
    | bl b =>
      have e : v = .bl b := by
        cases r1
        rfl
      exact ⟨b, e, eq b F1 H1 Γ1 h1 x1 q⟩
    | _ => exact q.elim) hw
theorem pwt_cmp {op : CmpOp} {r : R2} {k : K2} (o : OpR X (compareOp op) r ∧ OK2 X r k) (ha : PWE X E a wa) (hb : PWE X E b wb) (hm : behindInMarks op b = false := by first | exact nomark _ | rfl) : PWT X E (.Compare a [op] [b] pos) (wTst (wOp k wa wb)) := by
  obtain ⟨ta, pa, ka⟩ := ha
  obtain ⟨tb, pb, kb⟩ := hb
  exact ⟨_, pt_cmpR o.1 pa pb hm, fun R F H σ Γ ex Q Qt g h eq w => ok_tst (fun R F H σ Γ ex Q Qt g h eq w => ok_op o.2 ka kb g h eq w) g h eq w⟩
/-- a truth value as a test -/
theorem pwt_val {w : WE} (h : PWE X E e w) (he : ∀ whole, isTrue e X.env whole = (do let v ← whole; standAt e.pos; holding [v] (truthy v)) := by intro _; rfl) : PWT X E e (wTst w) := by
  obtain ⟨te, pe, ke⟩ := h
  exact ⟨_, pt_val pe he, fun R F H σ Γ ex Q Qt g h eq w => ok_tst ke g h eq w⟩
/-- by a truth value; by a value that is one -/
def ifB (b : Bool) (x y : Prop) : Prop := match b with
  | true => x
  | false => y
def ifD (d : D) (x y : Prop) : Prop := match d with
  | .bl true => x
  | .bl false => y
  | _ => False
/-- a < b < c -/
@[reducible] def wChain (k k' : K2) (wa wb wc : WE) : WE := fun ex Γ Q => wa ex Γ fun x fx Γ1 => wb ex Γ1 fun y fy Γ2 => k x fx y fy fun z _ => ifD z (wc ex Γ2 fun u fu Γ3 => k' y fy u fu fun z fz => Q z fz Γ3) (Q (.bl false) true Γ2)
theorem ok_chain {r r' : R2} {k k' : K2} (hk : OK2 X r k) (hk' : OK2 X r' k') {ta tb tc : TE} (ka : SE X E ta wa)
    (kb : SE X E tb wb)
    (kc : SE X E tc wc) {R : Rl} {F H : Hp} {σ : L2.St} {Γ : En} {ex : EX} {Q Qt}
    (g : Go X R E ex) (h : Hd R F H σ Γ) (eq : EQ R F H σ Γ Q Qt) (w : wChain k k' wa wb wc ex Γ Q) : tChain r r' ta tb tc σ H Qt :=
  ka R F H σ Γ ex _ _ g h (fun x F1 H1 Γ1 dx fx h1 x1 r1 w1 => kb R F1 H1 σ Γ1 ex _ _ g h1 (fun y F2 H2 Γ2 dy fy h2 x2 r2 w2 =>
    hk R F2 H2 σ Γ2 x y dx fx dy fy _ _ g.K h2 (r1.mono (fF_mono x2.ex)) r2 (fun v F3 H3 d fr h3 x3 r3 q => by
      cases d with
      | bl t =>
        have e : v = .bl t := by
          cases r3
          rfl
        refine ⟨t, e, ?_⟩
        cases t with
        | true =>
          show (if true = true then _ else _)
          rw [if_pos rfl]
          exact kc R F3 H3 σ Γ2 ex _ _ g h3 (fun u F4 H4 Γ4 du fu h4 x4 r4 w4 => hk' R F4 H4 σ Γ4 y u dy fy du fu _ Qt g.K h4 (r2.mono (fF_mono (x3.trans x4).ex)) r4
            (fun v F5 H5 d fr h5 x5 r5 q => eq v F5 H5 Γ4 d fr h5 ((((x1.trans x2).trans x3).trans x4).trans x5) r5 q) w4) q
        | false =>
          show (if false = true then _ else _)
          rw [if_neg Bool.false_ne_true]
          exact eq _ F3 H3 Γ2 _ true h3 ((x1.trans x2).trans x3) (.bl false) q
      | _ => exact q.elim) w2) w1) w
theorem pw_chain {op op' : CmpOp} {r r' : R2} {k k' : K2} (o : OpR X (compareOp op) r ∧ OK2 X r k) (o' : OpR X (compareOp op') r' ∧ OK2 X r' k') (ha : PWE X E a wa) (hb : PWE X E b wb) (hc : PWE X E c wc)
    (hm : lastMarks [op, op'] [b, c] = false := by with_unfolding_all rfl) : PWE X E (.Compare a [op, op'] [b, c] pos) (wChain k k' wa wb wc) := by
  obtain ⟨ta, pa, ka⟩ := ha
  obtain ⟨tb, pb, kb⟩ := hb
  obtain ⟨tc, pc, kc⟩ := hc
  exact ⟨_, pe_chain o.1 o'.1 pa pb pc hm, fun R F H σ Γ ex Q Qt g h eq w => ok_chain o.2 o'.2 ka kb kc g h eq w⟩
theorem pwt_chain {op op' : CmpOp} {r r' : R2} {k k' : K2} (o : OpR X (compareOp op) r ∧ OK2 X r k) (o' : OpR X (compareOp op') r' ∧ OK2 X r' k') (ha : PWE X E a wa) (hb : PWE X E b wb) (hc : PWE X E c wc)
    (hm : lastMarks [op, op'] [b, c] = false := by with_unfolding_all rfl) : PWT X E (.Compare a [op, op'] [b, c] pos) (wTst (wChain k k' wa wb wc)) := by
  obtain ⟨ta, pa, ka⟩ := ha
  obtain ⟨tb, pb, kb⟩ := hb
  obtain ⟨tc, pc, kc⟩ := hc
  exact ⟨_, pt_chain o.1 o'.1 pa pb pc hm, fun R F H σ Γ ex Q Qt g h eq w => ok_tst (fun R F H σ Γ ex Q Qt g h eq w => ok_chain o.2 o'.2 ka kb kc g h eq w) g h eq w⟩

/-! ### and, or, not, if-else -/
variable {ta tb : WT} {rest : List Expr}
def PWW (X : Cx) (E : XK) (e : Expr) (w : WT) : Prop := ∃ te : TT, PW X e te ∧ ST X E te w
@[reducible] def wAnd (t u : WT) : WT := fun ex Γ Q => t ex Γ fun b Γ1 => ifB b (u ex Γ1 Q) (Q false Γ1)
@[reducible] def wOr (t u : WT) : WT := fun ex Γ Q => t ex Γ fun b Γ1 => ifB b (Q true Γ1) (u ex Γ1 Q)
@[reducible] def wNot (t : WT) : WT := fun ex Γ Q => t ex Γ fun b Γ1 => Q (!b) Γ1
theorem pww_and1 (h : PWT X E a ta) : PWW X E (.BoolOp .And [a] pos) ta := ⟨_, pw_and1 h.choose_spec.1, h.choose_spec.2⟩
theorem pww_or1 (h : PWT X E a ta) : PWW X E (.BoolOp .Or [a] pos) ta := ⟨_, pw_or1 h.choose_spec.1, h.choose_spec.2⟩
theorem pww_and (ha : PWT X E a ta) (hb : PWW X E (.BoolOp .And (b :: rest) pos) tb) : PWW X E (.BoolOp .And (a :: b :: rest) pos) (wAnd ta tb) := by
  obtain ⟨t, pt, kt⟩ := ha
  obtain ⟨u, pu, ku⟩ := hb
  refine ⟨_, pw_and pt pu, fun R F H σ Γ ex Q Qt g h eq w => kt R F H σ Γ ex _ _ g h (fun b F1 H1 Γ1 h1 x1 w1 => ?_) w⟩
  cases b with
  | true =>
    show (if true = true then _ else _)
    rw [if_pos rfl]
    exact ku R F1 H1 σ Γ1 ex _ _ g h1 (fun b F2 H2 Γ2 h2 x2 q => eq b F2 H2 Γ2 h2 (x1.trans x2) q) w1
  | false =>
    show (if false = true then _ else _)
    rw [if_neg Bool.false_ne_true]
    exact eq _ F1 H1 Γ1 h1 x1 w1
theorem pww_or (ha : PWT X E a ta) (hb : PWW X E (.BoolOp .Or (b :: rest) pos) tb) : PWW X E (.BoolOp .Or (a :: b :: rest) pos) (wOr ta tb) := by
  obtain ⟨t, pt, kt⟩ := ha
  obtain ⟨u, pu, ku⟩ := hb
  refine ⟨_, pw_or pt pu, fun R F H σ Γ ex Q Qt g h eq w => kt R F H σ Γ ex _ _ g h (fun b F1 H1 Γ1 h1 x1 w1 => ?_) w⟩
  cases b with
  | false =>
    show (if false = true then _ else _)
    rw [if_neg Bool.false_ne_true]
    exact ku R F1 H1 σ Γ1 ex _ _ g h1 (fun b F2 H2 Γ2 h2 x2 q => eq b F2 H2 Γ2 h2 (x1.trans x2) q) w1
  | true =>
    show (if true = true then _ else _)
    rw [if_pos rfl]
    exact eq _ F1 H1 Γ1 h1 x1 w1
theorem pwt_of {w : WT} (h : PWW X E e w) : PWT X E e w := ⟨_, h.choose_spec.1.pt, h.choose_spec.2⟩
theorem pwt_not (ha : PWT X E a ta) : PWT X E (.UnaryOp .Not a pos) (wNot ta) := by
  obtain ⟨t, pt, kt⟩ := ha
  exact ⟨_, pt_not pt, fun R F H σ Γ ex Q Qt g h eq w => kt R F H σ Γ ex _ _ g h (fun b F1 H1 Γ1 h1 x1 w1 => eq _ F1 H1 Γ1 h1 x1 w1) w⟩
/-- as values -/
@[reducible] def wAndV (wa wb : WE) : WE := fun ex Γ Q => wa ex Γ fun d _ Γ1 => ifD d (wb ex Γ1 Q) (Q (.bl false) true Γ1)
@[reducible] def wOrV (wa wb : WE) : WE := fun ex Γ Q => wa ex Γ fun d _ Γ1 => ifD d (Q (.bl true) true Γ1) (wb ex Γ1 Q)
@[reducible] def wNotV (wa : WE) : WE := fun ex Γ Q => wa ex Γ fun d _ Γ1 => match d with
  | .bl b => Q (.bl (!b)) true Γ1
  | _ => False
theorem pw_one {op} (h : PWE X E a wa) : PWE X E (.BoolOp op [a] pos) wa := ⟨_, pe_one h.choose_spec.1, h.choose_spec.2⟩
theorem rp_bl {F : Hp} {v : V} {b : Bool} (h : Rp F v (.bl b)) : v = .bl b := by cases h; rfl
theorem rp_int {F : Hp} {v : V} {b : Int} (h : Rp F v (.int b)) : v = .int b := by cases h; rfl
theorem rp_str {F : Hp} {v : V} {b : Str} (h : Rp F v (.str b)) : v = .str b := by cases h; rfl
theorem rp_non {F : Hp} {v : V} (h : Rp F v .non) : v = .non := by cases h; rfl
theorem pw_and (ha : PWE X E a wa) (hb : PWE X E (.BoolOp .And (b :: rest) pos) wb) : PWE X E (.BoolOp .And (a :: b :: rest) pos) (wAndV wa wb) := by
  obtain ⟨t, pt, kt⟩ := ha
  obtain ⟨u, pu, ku⟩ := hb
  refine ⟨_, pe_and pt pu, fun R F H σ Γ ex Q Qt g h eq w => kt R F H σ Γ ex _ _ g h (fun v F1 H1 Γ1 d fr h1 x1 r1 w1 => ?_) w⟩
  cases d with
  | bl b =>
    refine ⟨b, rp_bl r1, ?_⟩
    cases b with
    | true =>
      rw [if_pos rfl]
      exact ku R F1 H1 σ Γ1 ex _ _ g h1 (fun v F2 H2 Γ2 d fr h2 x2 r2 q => eq v F2 H2 Γ2 d fr h2 (x1.trans x2) r2 q) w1
    | false =>
      rw [if_neg Bool.false_ne_true]
      exact eq _ F1 H1 Γ1 _ true h1 x1 (.bl false) w1
  | _ => exact w1.elim
theorem pw_or (ha : PWE X E a wa) (hb : PWE X E (.BoolOp .Or (b :: rest) pos) wb) : PWE X E (.BoolOp .Or (a :: b :: rest) pos) (wOrV wa wb) := by
  obtain ⟨t, pt, kt⟩ := ha
  obtain ⟨u, pu, ku⟩ := hb
  refine ⟨_, pe_or pt pu, fun R F H σ Γ ex Q Qt g h eq w => kt R F H σ Γ ex _ _ g h (fun v F1 H1 Γ1 d fr h1 x1 r1 w1 => ?_) w⟩
  cases d with
  | bl b =>
    refine ⟨b, rp_bl r1, ?_⟩
    cases b with
    | false =>
      rw [if_neg Bool.false_ne_true]
      exact ku R F1 H1 σ Γ1 ex _ _ g h1 (fun v F2 H2 Γ2 d fr h2 x2 r2 q => eq v F2 H2 Γ2 d fr h2 (x1.trans x2) r2 q) w1
    | true =>
      rw [if_pos rfl]
      exact eq _ F1 H1 Γ1 _ true h1 x1 (.bl true) w1
  | _ => exact w1.elim
theorem pw_not (ha : PWE X E a wa) : PWE X E (.UnaryOp .Not a pos) (wNotV wa) := by
  obtain ⟨t, pt, kt⟩ := ha
  refine ⟨_, pe_not pt, fun R F H σ Γ ex Q Qt g h eq w => kt R F H σ Γ ex _ _ g h (fun v F1 H1 Γ1 d fr h1 x1 r1 w1 => ?_) w⟩
  cases d with
  | bl b => exact ⟨b, rp_bl r1, eq _ F1 H1 Γ1 _ true h1 x1 (.bl (!b)) w1⟩
  | _ => exact w1.elim
@[reducible] def wIf (t : WT) (wa wb : WE) : WE := fun ex Γ Q => t ex Γ fun b Γ1 => ifB b (wa ex Γ1 Q) (wb ex Γ1 Q)
theorem pw_ifExp (ht : PWT X E c ta) (ha : PWE X E a wa) (hb : PWE X E b wb) : PWE X E (.IfExp c a b pos) (wIf ta wa wb) := by
  obtain ⟨t, pt, kt⟩ := ht
  obtain ⟨u, pu, ku⟩ := ha
  obtain ⟨v, pv, kv⟩ := hb
  refine ⟨_, pe_ifExp pt pu pv, fun R F H σ Γ ex Q Qt g h eq w => kt R F H σ Γ ex _ _ g h (fun b F1 H1 Γ1 h1 x1 w1 => ?_) w⟩
  cases b with
  | true =>
    show (if true = true then _ else _)
    rw [if_pos rfl]
    exact ku R F1 H1 σ Γ1 ex _ _ g h1 (fun v F2 H2 Γ2 d fr h2 x2 r2 q => eq v F2 H2 Γ2 d fr h2 (x1.trans x2) r2 q) w1
  | false =>
    show (if false = true then _ else _)
    rw [if_neg Bool.false_ne_true]
    exact kv R F1 H1 σ Γ1 ex _ _ g h1 (fun v F2 H2 Γ2 d fr h2 x2 r2 q => eq v F2 H2 Γ2 d fr h2 (x1.trans x2) r2 q) w1

/-! ### argument lists, displays -/
@[reducible] def wNil : WA := fun _ Γ Q => Q [] Γ
@[reducible] def wCons (we : WE) (wr : WA) : WA := fun ex Γ Q => we ex Γ fun d fr Γ1 => wr ex Γ1 fun ds Γ2 => Q ((d, fr) :: ds) Γ2
theorem pwa_nil : PWA X E [] wNil := ⟨_, pa_nil, fun R F H σ Γ ex Q Qt g h eq w => eq [] F H Γ [] h Nx.refl .nil w⟩
theorem pwa_cons {wr : WA} (ha : PWE X E e wa) (hr : PWA X E es wr) (hs : starEach (e :: es) X.env = (false, eval e X.env) :: starEach es X.env := by rfl) : PWA X E (e :: es) (wCons wa wr) := by
  obtain ⟨t, pt, kt⟩ := ha
  obtain ⟨u, pu, ku⟩ := hr
  exact ⟨_, pa_cons pt pu hs, fun R F H σ Γ ex Q Qt g h eq w => kt R F H σ Γ ex _ _ g h (fun v F1 H1 Γ1 d fr h1 x1 r1 w1 => ku R F1 H1 σ Γ1 ex _ _ g h1
    (fun vs F2 H2 Γ2 ds h2 x2 r2 q => eq (v :: vs) F2 H2 Γ2 ((d, fr) :: ds) h2 (x1.trans x2) (.cons (r1.mono (fF_mono x2.ex)) r2) q) w1) w⟩
/-- a frozen new thing -/
theorem Hd.newF {R : Rl} {F H : Hp} {σ : L2.St} {Γ : En} (h : Hd R F H σ Γ) {p : Addr} {o : HO} (hp : H p = none) : Hd R (upd F p o) (upd H p o) σ Γ ∧ Nx σ F H Γ (upd F p o) (upd H p o) Γ ∧ ∀ fr, fF R (upd F p o) fr p = some o := by
  have hF := h.fNone hp
  have nwx : ∀ a u, upd F p o a = some u → F a = some u ∨ H a = none := fun a u e => by
    by_cases ha : a = p
    · rw [ha]; exact .inr hp
    · rw [upd_ne ha] at e
      exact .inl e
  refine ⟨h.grow (Ex.new hp) (Ex.new hF) (fun a u e => ?_) nwx, .grow (Ex.new hF) (Ex.new hp) nwx, fun fr => ?_⟩
  · by_cases ha : a = p
    · rw [ha, upd_same] at e
      cases e
      rw [ha]
      exact .inl upd_same
    · rw [upd_ne ha] at e
      exact (h.sub a u e).ex (Ex.new hp)
  · cases fr with
    | false => exact upd_same
    | true =>
      rcases h.h0 hp with q | q
      · show nw R.H0 _ p = _
        rw [nw_at q, upd_same]
      · exact absurd hp (h.iof p q).2.2
@[reducible] def frs' (ds : List (D × Bool)) : Bool := ds.all (·.2)
@[reducible] def wLst (wa : WA) : WE := fun ex Γ Q => wa ex Γ fun ds Γ1 => ds.length ≤ sizeLine ∧ Q (.lst (ds.map (·.1))) (frs' ds) Γ1
@[reducible] def wTup (wa : WA) : WE := fun ex Γ Q => wa ex Γ fun ds Γ1 => ds.length ≤ sizeLine ∧ Q (.tup (ds.map (·.1))) (frs' ds) Γ1
theorem pw_lst {wr : WA} (ha : PWA X E es wr) : PWE X E (.List es pos) (wLst wr) := by
  obtain ⟨t, pt, kt⟩ := ha
  refine ⟨_, pe_lst pt, fun R F H σ Γ ex Q Qt g h eq w => kt R F H σ Γ ex _ _ g h (fun vs F1 H1 Γ1 ds h1 x1 r1 w1 => ?_) w⟩
  refine ⟨by rw [r1.length]; exact w1.1, fun p hp => ?_⟩
  obtain ⟨h2, x2, at_⟩ := h1.newF (o := .lst vs) hp
  exact eq _ _ _ Γ1 _ _ h2 (x1.trans x2) (.lst (at_ _) (r1.all.mono (fF_mono x2.ex))) w1.2
theorem pw_tup {x1} {wr : WA} (ha : PWA X E es wr) : PWE X E (.Tuple es x1 pos) (wTup wr) := by
  obtain ⟨t, pt, kt⟩ := ha
  refine ⟨_, pe_tup pt, fun R F H σ Γ ex Q Qt g h eq w => kt R F H σ Γ ex _ _ g h (fun vs F1 H1 Γ1 ds h1 x1 r1 w1 => ?_) w⟩
  refine ⟨by rw [r1.length]; exact w1.1, fun p hp => ?_⟩
  obtain ⟨h2, x2, at_⟩ := h1.newF (o := .tup vs) hp
  exact eq _ _ _ Γ1 _ _ h2 (x1.trans x2) (.tup (at_ _) (r1.all.mono (fF_mono x2.ex))) w1.2
end
end Y

/-! Y: part 3: operators by their data. -/
namespace Y
open PySem L2

/-! ### data as the model's plain data -/
mutual
def plain : D → Bool
  | .non | .bl _ | .int _ => true
  | .str x => PyData.strOk x
  | .lst xs | .tup xs => plainAll xs
  | .dk _ | .dt _ | .opq _ => false
def plainAll : List D → Bool
  | [] => true
  | x :: xs => plain x && plainAll xs
end
mutual
def pd : D → PyData
  | .non => .none
  | .bl b => .bool b
  | .int i => .int i
  | .str x => .str x
  | .lst xs => .list (pdAll xs)
  | .tup xs => .tuple (pdAll xs)
  | .dk _ | .dt _ | .opq _ => .none
def pdAll : List D → List PyData
  | [] => []
  | x :: xs => pd x :: pdAll xs
end
mutual
def dep : D → Nat
  | .lst xs | .tup xs => depAll xs + 1
  | _ => 0
def depAll : List D → Nat
  | [] => 0
  | x :: xs => max (dep x) (depAll xs)
end
mutual
theorem canLay_pd : ∀ d : D, plain d = true → (pd d).canLay0 = true
  | .non, _ => by unfold pd; rfl
  | .bl b, _ => by unfold pd; rfl
  | .int i, _ => by unfold pd; rfl
  | .str x, h => by
    unfold pd
    unfold plain at h
    unfold PyData.canLay0
    exact h
  | .lst xs, h => by
    unfold pd
    unfold plain at h
    unfold PyData.canLay0
    exact canLay_pdAll xs h
  | .tup xs, h => by
    unfold pd
    unfold plain at h
    unfold PyData.canLay0
    exact canLay_pdAll xs h
  | .dk _, h => by unfold plain at h; cases h
  | .dt _, h => by unfold plain at h; cases h
  | .opq _, h => by unfold plain at h; cases h
theorem canLay_pdAll : ∀ d : List D, plainAll d = true → PyData.canLayAll0 (pdAll d) = true
  | [], _ => by unfold pdAll; unfold PyData.canLayAll0; rfl
  | x :: xs, h => by
    unfold plainAll at h
    obtain ⟨h1, h2⟩ := Bool.and_eq_true_iff.mp h
    unfold pdAll
    unfold PyData.canLayAll0
    rw [canLay_pd x h1, canLay_pdAll xs h2]
    rfl
end
mutual
theorem depth_pd : ∀ d : D, (pd d).depth ≤ dep d
  | .non => by unfold pd; unfold PyData.depth; exact Nat.zero_le _
  | .bl b => by unfold pd; unfold PyData.depth; exact Nat.zero_le _
  | .int i => by unfold pd; unfold PyData.depth; exact Nat.zero_le _
  | .str x => by unfold pd; unfold PyData.depth; exact Nat.zero_le _
  | .lst xs => by
    unfold pd
    unfold PyData.depth
    unfold dep
    exact Nat.succ_le_succ (depth_pdAll xs)
  | .tup xs => by
    unfold pd
    unfold PyData.depth
    unfold dep
    exact Nat.succ_le_succ (depth_pdAll xs)
  | .dk _ => by unfold pd; unfold PyData.depth; exact Nat.zero_le _
  | .dt _ => by unfold pd; unfold PyData.depth; exact Nat.zero_le _
  | .opq _ => by unfold pd; unfold PyData.depth; exact Nat.zero_le _
theorem depth_pdAll : ∀ d : List D, PyData.depthAll (pdAll d) ≤ depAll d
  | [] => by unfold pdAll; unfold PyData.depthAll; exact Nat.zero_le _
  | x :: xs => by
    unfold pdAll
    unfold PyData.depthAll
    unfold depAll
    have h1 := depth_pd x
    have h2 := depth_pdAll xs
    omega
end
/-- what == takes -/
def okD (d : D) : Bool := plain d && decide (dep d ≤ 64)
theorem shaped_pd {d : D} (h : okD d = true) : SeqAt.shaped (pd d) = true := by
  obtain ⟨h1, h2⟩ := Bool.and_eq_true_iff.mp h
  have h3 : dep d ≤ 64 := of_decide_eq_true h2
  have h4 := depth_pd d
  unfold SeqAt.shaped
  rw [canLay_pd d h1, Bool.true_and]
  exact decide_eq_true (by omega)
section
variable {K : PySem.W.Frag} {F H : Hp}
mutual
theorem Rp.dp (sub : ∀ a u, F a = some u → RdD H a u) : ∀ {v : V} {d : D}, Rp F v d → plain d = true → Dp K H v (pd d)
  | _, _, .non, _ => by unfold pd; exact .non
  | _, _, .bl b, _ => by unfold pd; exact .bl b
  | _, _, .int i, _ => by unfold pd; exact .int i
  | _, _, .str x, _ => by unfold pd; exact .str x
  | _, _, .opq v, h => by unfold plain at h; cases h
  | _, _, .lst e r, h => by
    unfold plain at h
    unfold pd
    exact .lst (.inl (sub _ _ e).rd) (RpAll.dp sub r h)
  | _, _, .tup e r, h => by
    unfold plain at h
    unfold pd
    exact .tup (.inl (sub _ _ e).rd) (RpAll.dp sub r h)
  | _, _, .dk _ _, h => by unfold plain at h; cases h
  | _, _, .dt _ _, h => by unfold plain at h; cases h
theorem RpAll.dp (sub : ∀ a u, F a = some u → RdD H a u) : ∀ {v : List V} {d : List D}, RpAll F v d → plainAll d = true → DpAll K H v (pdAll d)
  | _, _, .nil, _ => by unfold pdAll; exact .nil
  | _, _, .cons e r, h => by
    unfold plainAll at h
    obtain ⟨h1, h2⟩ := Bool.and_eq_true_iff.mp h
    unfold pdAll
    exact .cons (Rp.dp sub e h1) (RpAll.dp sub r h2)
end
end
/-- a list's place -/
theorem RdD.lst {H : Hp} {a : Addr} {xs : List V} (h : RdD H a (HO.lst xs)) : H a = some (HO.lst xs) := by
  rcases h with h | ⟨⟨k, z⟩ | ⟨k, z⟩, _⟩
  · exact h
  · cases z
  · cases z
theorem RdD.tup {H : Hp} {a : Addr} {xs : List V} (h : RdD H a (HO.tup xs)) : H a = some (HO.tup xs) := by
  rcases h with h | ⟨⟨k, z⟩ | ⟨k, z⟩, _⟩
  · exact h
  · cases z
  · cases z

section
variable {X : Cx}
/-! ### whole numbers -/
@[reducible] def kI (C : Int → Int → Prop) (G : Int → Int → D) : K2 := fun x _ y _ Q => match x, y with
  | .int i, .int j => C i j ∧ Q (G i j) true
  | _, _ => False
@[reducible] def kI0 (G : Int → Int → D) : K2 := fun x _ y _ Q => match x, y with
  | .int i, .int j => Q (G i j) true
  | _, _ => False
theorem ok_kI {C : Int → Int → Prop} {g : Int → Int → V} {G : Int → Int → D} (hg : ∀ i j, flatD (G i j) (g i j)) : OK2 X (rI C g) (kI C G) := by
  intro R F H σ Γ x y dx fx dy fy Q Qt hK h rx ry eq k
  cases dx with
  | int i => cases dy with
    | int j => exact ⟨i, j, rp_int rx, rp_int ry, k.1, eq _ F H _ true h Nx.refl (flatD.rp (hg i j)) k.2⟩
    | _ => exact k.elim
  | _ => exact k.elim
theorem ok_kI0 {g : Int → Int → V} {G : Int → Int → D} (hg : ∀ i j, flatD (G i j) (g i j)) : OK2 X (rI0 g) (kI0 G) := by
  intro R F H σ Γ x y dx fx dy fy Q Qt hK h rx ry eq k
  cases dx with
  | int i => cases dy with
    | int j => exact ⟨i, j, rp_int rx, rp_int ry, eq _ F H _ true h Nx.refl (flatD.rp (hg i j)) k⟩
    | _ => exact k.elim
  | _ => exact k.elim
theorem flatD_int (i j : Int) (f : Int → Int → Int) : flatD (.int (f i j)) (.int (f i j)) := rfl
/-- + : whole numbers, texts, lists -/
@[reducible] def kAdd : K2 := fun x fx y fy Q => match x, y with
  | .int i, .int j => Q (.int (i + j)) true
  | .str a, .str b => a.length + b.length ≤ sizeLine ∧ Q (.str (a ++ b)) true
  | .lst a, .lst b => a.length + b.length ≤ sizeLine ∧ Q (.lst (a ++ b)) (fx && fy)
  | _, _ => False
def rStr2 : R2 := fun x y H Q => ∃ i j, x = .str i ∧ y = .str j ∧ i.length + j.length ≤ sizeLine ∧ Q (.str (i ++ j)) H
theorem rpAll_and {R : Rl} {F : Hp} {fx fy : Bool} {vs ws : List V} {ds es : List D} (h1 : RpAll (fF R F fx) vs ds) (h2 : RpAll (fF R F fy) ws es) : RpAll (fF R F (fx && fy)) (vs ++ ws) (ds ++ es) := by
  cases fx with
  | true => cases fy with
    | true => exact h1.append h2
    | false => exact (h1.mono nw_ex).append h2
  | false => exact h1.append (h2.mono fF_ex)
theorem o_add : OpR X (binaryOp .Add) (fun x y H Q => (rI0 (fun i j => .int (i + j)) x y H Q ∨ rStr2 x y H Q) ∨ rCat x y H Q) ∧ OK2 X (fun x y H Q => (rI0 (fun i j => .int (i + j)) x y H Q ∨ rStr2 x y H Q) ∨ rCat x y H Q) kAdd := by
  refine ⟨(op_add.or op_add_str).or op_cat, ?_⟩
  intro R F H σ Γ x y dx fx dy fy Q Qt hK h rx ry eq k
  cases dx with
  | int i => cases dy with
    | int j => exact .inl (.inl ⟨i, j, rp_int rx, rp_int ry, eq _ F H _ true h Nx.refl (.int _) k⟩)
    | _ => exact k.elim
  | str i => cases dy with
    | str j => exact .inl (.inr ⟨i, j, rp_str rx, rp_str ry, k.1, eq _ F H _ true h Nx.refl (.str _) k.2⟩)
    | _ => exact k.elim
  | lst a => cases dy with
    | lst b =>
      have hx : ∃ p vs, x = .ref p ∧ fF R F fx p = some (.lst vs) ∧ RpAll (fF R F fx) vs a := by
        cases rx with
        | lst e r => exact ⟨_, _, rfl, e, r⟩
      have hy : ∃ p vs, y = .ref p ∧ fF R F fy p = some (.lst vs) ∧ RpAll (fF R F fy) vs b := by
        cases ry with
        | lst e r => exact ⟨_, _, rfl, e, r⟩
      obtain ⟨p, vs, e1, e2, r1⟩ := hx
      obtain ⟨q, ws, e3, e4, r2⟩ := hy
      refine .inr ⟨p, q, vs, ws, e1, e3, RdD.lst (h.sub _ _ (fF_ex _ _ e2)), RdD.lst (h.sub _ _ (fF_ex _ _ e4)), by rw [r1.length, r2.length]; exact k.1, fun l hl => ?_⟩
      obtain ⟨h2, x2, at_⟩ := h.newF (o := .lst (vs ++ ws)) hl
      exact eq _ _ _ _ _ h2 x2 (.lst (at_ _) ((rpAll_and r1 r2).mono (fF_mono x2.ex))) k.2
    | _ => exact k.elim
  | _ => exact k.elim
theorem o_sub : OpR X (binaryOp .Sub) (rI0 fun i j => .int (i - j)) ∧ OK2 X (rI0 fun i j => .int (i - j)) (kI0 fun i j => .int (i - j)) := ⟨op_sub, ok_kI0 fun _ _ => rfl⟩
/-- * : whole numbers (together below a million bits), a list by a number -/
@[reducible] def kMul : K2 := fun x fx y _ Q => match x, y with
  | .int i, .int j => CMulW i j ∧ Q (.int (i * j)) true
  | .lst a, .int k => (-(2 ^ 63) ≤ k ∧ k < 2 ^ 63 ∧ a.length * k.toNat ≤ sizeLine) ∧ Q (.lst (List.replicate k.toNat a).flatten) fx
  | _, _ => False
theorem rpAll_rep {F : Hp} {vs : List V} {ds : List D} (h : RpAll F vs ds) : ∀ k : Nat, RpAll F (List.replicate k vs).flatten (List.replicate k ds).flatten
  | 0 => .nil
  | k + 1 => by
    rw [List.replicate_succ, List.replicate_succ, List.flatten_cons, List.flatten_cons]
    exact h.append (rpAll_rep h k)
theorem o_mul : OpR X (binaryOp .Mult) (fun x y H Q => rI CMulW (fun i j => .int (i * j)) x y H Q ∨ rRep x y H Q) ∧ OK2 X (fun x y H Q => rI CMulW (fun i j => .int (i * j)) x y H Q ∨ rRep x y H Q) kMul := by
  refine ⟨op_mulW.or op_rep, ?_⟩
  intro R F H σ Γ x y dx fx dy fy Q Qt hK h rx ry eq k
  cases dx with
  | int i => cases dy with
    | int j => exact .inl ⟨i, j, rp_int rx, rp_int ry, k.1, eq _ F H _ true h Nx.refl (.int _) k.2⟩
    | _ => exact k.elim
  | lst a => cases dy with
    | int j =>
      have hx : ∃ p vs, x = .ref p ∧ fF R F fx p = some (.lst vs) ∧ RpAll (fF R F fx) vs a := by
        cases rx with
        | lst e r => exact ⟨_, _, rfl, e, r⟩
      obtain ⟨p, vs, e1, e2, r1⟩ := hx
      refine .inr ⟨p, j, vs, e1, rp_int ry, RdD.lst (h.sub _ _ (fF_ex _ _ e2)), k.1.1, k.1.2.1, by rw [r1.length]; exact k.1.2.2, fun l hl => ?_⟩
      obtain ⟨h2, x2, at_⟩ := h.newF (o := .lst (List.replicate j.toNat vs).flatten) hl
      exact eq _ _ _ _ _ h2 x2 (.lst (at_ _) ((rpAll_rep r1 _).mono (fF_mono x2.ex))) k.2
    | _ => exact k.elim
  | _ => exact k.elim
theorem o_mod : OpR X (binaryOp .Mod) (rI (fun _ j => 0 < j) fun i j => .int (i % j)) ∧ OK2 X (rI (fun _ j => 0 < j) fun i j => .int (i % j)) (kI (fun _ j => 0 < j) fun i j => .int (i % j)) := ⟨op_mod, ok_kI fun _ _ => rfl⟩
theorem o_fdiv : OpR X (binaryOp .FloorDiv) (rI CDivW fun i j => .int (i / j)) ∧ OK2 X (rI CDivW fun i j => .int (i / j)) (kI CDivW fun i j => .int (i / j)) := ⟨op_fdivW, ok_kI fun _ _ => rfl⟩
theorem o_shl : OpR X (binaryOp .LShift) (rI CPow fun i j => .int (i * 2 ^ j.toNat)) ∧ OK2 X (rI CPow fun i j => .int (i * 2 ^ j.toNat)) (kI CPow fun i j => .int (i * 2 ^ j.toNat)) := ⟨op_shl, ok_kI fun _ _ => rfl⟩
theorem o_shr : OpR X (binaryOp .RShift) (rI (fun _ j => 0 ≤ j) fun i j => .int (i / 2 ^ j.toNat)) ∧ OK2 X (rI (fun _ j => 0 ≤ j) fun i j => .int (i / 2 ^ j.toNat)) (kI (fun _ j => 0 ≤ j) fun i j => .int (i / 2 ^ j.toNat)) := ⟨op_shr, ok_kI fun _ _ => rfl⟩
theorem o_and : OpR X (binaryOp .BitAnd) (rI0 fun i j => .int (Builtin.bitAnd i j)) ∧ OK2 X (rI0 fun i j => .int (Builtin.bitAnd i j)) (kI0 fun i j => .int (Builtin.bitAnd i j)) := ⟨op_and, ok_kI0 fun _ _ => rfl⟩
theorem o_xor : OpR X (binaryOp .BitXor) (rI0 fun i j => .int (Builtin.bitXor i j)) ∧ OK2 X (rI0 fun i j => .int (Builtin.bitXor i j)) (kI0 fun i j => .int (Builtin.bitXor i j)) := ⟨op_xor, ok_kI0 fun _ _ => rfl⟩
/-! ### comparisons -/
theorem o_lt : OpR X (compareOp .Lt) (rI0 fun i j => .bl (decide (i < j))) ∧ OK2 X (rI0 fun i j => .bl (decide (i < j))) (kI0 fun i j => .bl (decide (i < j))) := ⟨op_lt, ok_kI0 fun _ _ => rfl⟩
theorem o_le : OpR X (compareOp .LtE) (rI0 fun i j => .bl (decide (i ≤ j))) ∧ OK2 X (rI0 fun i j => .bl (decide (i ≤ j))) (kI0 fun i j => .bl (decide (i ≤ j))) := ⟨op_le, ok_kI0 fun _ _ => rfl⟩
theorem o_gt : OpR X (compareOp .Gt) (rI0 fun i j => .bl (decide (j < i))) ∧ OK2 X (rI0 fun i j => .bl (decide (j < i))) (kI0 fun i j => .bl (decide (j < i))) := ⟨op_gt, ok_kI0 fun _ _ => rfl⟩
theorem o_ge : OpR X (compareOp .GtE) (rI0 fun i j => .bl (decide (j ≤ i))) ∧ OK2 X (rI0 fun i j => .bl (decide (j ≤ i))) (kI0 fun i j => .bl (decide (j ≤ i))) := ⟨op_ge, ok_kI0 fun _ _ => rfl⟩
/-- == by data -/
@[reducible] def kEq : K2 := fun x _ y _ Q => match x, y with
  | .int i, .int j => Q (.bl (decide (i = j))) true
  | x, y => (okD x = true ∧ okD y = true) ∧ Q (.bl (PyData.eqv (pd x) (pd y))) true
@[reducible] def kNe : K2 := fun x _ y _ Q => match x, y with
  | .int i, .int j => Q (.bl (!decide (i = j))) true
  | x, y => (okD x = true ∧ okD y = true) ∧ Q (.bl (!PyData.eqv (pd x) (pd y))) true
theorem decV_int (i j : Int) : decide (V.int i = V.int j) = decide (i = j) := by
  by_cases e : i = j
  · rw [decide_eq_true e, decide_eq_true (by rw [e])]
  · rw [decide_eq_false e, decide_eq_false (fun z => e (by injection z))]
theorem kEq_cases {x y : D} {fx fy : Bool} {Q : D → Bool → Prop} (k : kEq x fx y fy Q) : (∃ i j, x = .int i ∧ y = .int j ∧ Q (.bl (decide (i = j))) true) ∨ ((okD x = true ∧ okD y = true) ∧ Q (.bl (PyData.eqv (pd x) (pd y))) true) := by
  cases x with
  | int i => cases y with
    | int j => exact .inl ⟨i, j, rfl, rfl, k⟩
    | _ => exact .inr k
  | _ => exact .inr k
theorem kNe_cases {x y : D} {fx fy : Bool} {Q : D → Bool → Prop} (k : kNe x fx y fy Q) : (∃ i j, x = .int i ∧ y = .int j ∧ Q (.bl (!decide (i = j))) true) ∨ ((okD x = true ∧ okD y = true) ∧ Q (.bl (!PyData.eqv (pd x) (pd y))) true) := by
  cases x with
  | int i => cases y with
    | int j => exact .inl ⟨i, j, rfl, rfl, k⟩
    | _ => exact .inr k
  | _ => exact .inr k
theorem o_eq (hu : X.A.units + 64 < cLine) : OpR X (compareOp .Eq) (fun x y H Q => rEq x y H Q ∨ rEqD X.K x y H Q) ∧ OK2 X (fun x y H Q => rEq x y H Q ∨ rEqD X.K x y H Q) kEq := by
  refine ⟨op_eq.or (op_eqD hu), ?_⟩
  intro R F H σ Γ x y dx fx dy fy Q Qt hK h rx ry eq k
  rcases kEq_cases k with ⟨i, j, e1, e2, q⟩ | ⟨⟨h1, h2⟩, q⟩
  · subst e1
    subst e2
    have z1 := rp_int rx
    have z2 := rp_int ry
    subst z1
    subst z2
    refine .inl ⟨rfl, ?_⟩
    rw [decV_int]
    exact eq _ F H _ true h Nx.refl (.bl _) q
  · obtain ⟨p1, _⟩ := Bool.and_eq_true_iff.mp h1
    obtain ⟨p2, _⟩ := Bool.and_eq_true_iff.mp h2
    exact .inr ⟨pd dx, pd dy, Rp.dp h.sub (rx.mono fF_ex) p1, Rp.dp h.sub (ry.mono fF_ex) p2, shaped_pd h1, shaped_pd h2, eq _ F H _ true h Nx.refl (.bl _) q⟩
theorem o_ne (hu : X.A.units + 64 < cLine) : OpR X (compareOp .NotEq) (fun x y H Q => rNe x y H Q ∨ rNeD X.K x y H Q) ∧ OK2 X (fun x y H Q => rNe x y H Q ∨ rNeD X.K x y H Q) kNe := by
  refine ⟨op_ne.or (op_neD hu), ?_⟩
  intro R F H σ Γ x y dx fx dy fy Q Qt hK h rx ry eq k
  rcases kNe_cases k with ⟨i, j, e1, e2, q⟩ | ⟨⟨h1, h2⟩, q⟩
  · subst e1
    subst e2
    have z1 := rp_int rx
    have z2 := rp_int ry
    subst z1
    subst z2
    refine .inl ⟨rfl, ?_⟩
    rw [decV_int]
    exact eq _ F H _ true h Nx.refl (.bl _) q
  · obtain ⟨p1, _⟩ := Bool.and_eq_true_iff.mp h1
    obtain ⟨p2, _⟩ := Bool.and_eq_true_iff.mp h2
    exact .inr ⟨pd dx, pd dy, Rp.dp h.sub (rx.mono fF_ex) p1, Rp.dp h.sub (ry.mono fF_ex) p2, shaped_pd h1, shaped_pd h2, eq _ F H _ true h Nx.refl (.bl _) q⟩
/-- is None -/
def isNonD : D → Bool
  | .non => true
  | _ => false
@[reducible] def kIsN : K2 := fun x _ y _ Q => match x, y with
  | .opq _, _ => False
  | x, .non => Q (.bl (isNonD x)) true
  | _, _ => False
@[reducible] def kNotN : K2 := fun x _ y _ Q => match x, y with
  | .opq _, _ => False
  | x, .non => Q (.bl (!isNonD x)) true
  | _, _ => False
theorem isNon_of {F : Hp} {x : V} {d : D} (r : Rp F x d) (h : ∀ v, d ≠ .opq v) : decide (x = .non) = isNonD d := by
  cases r with
  | opq => exact absurd rfl (h _)
  | non => rfl
  | _ => exact decide_eq_false (by intro z; cases z)
theorem kIsN_cases {x y : D} {fx fy : Bool} {Q : D → Bool → Prop} (k : kIsN x fx y fy Q) : (∀ v, x ≠ .opq v) ∧ y = .non ∧ Q (.bl (isNonD x)) true := by
  cases x <;> cases y <;> first | exact k.elim | exact ⟨fun v z => (by cases z), rfl, k⟩
theorem kNotN_cases {x y : D} {fx fy : Bool} {Q : D → Bool → Prop} (k : kNotN x fx y fy Q) : (∀ v, x ≠ .opq v) ∧ y = .non ∧ Q (.bl (!isNonD x)) true := by
  cases x <;> cases y <;> first | exact k.elim | exact ⟨fun v z => (by cases z), rfl, k⟩
def rIsN' : R2 := fun x y H Q => y = .non ∧ Q (.bl (decide (x = .non))) H
def rNotN' : R2 := fun x y H Q => y = .non ∧ Q (.bl (!decide (x = .non))) H
theorem o_isN : OpR X (compareOp .Is) rIsN' ∧ OK2 X rIsN' kIsN := by
  refine ⟨op_isN, ?_⟩
  intro R F H σ Γ x y dx fx dy fy Q Qt hK h rx ry eq k
  obtain ⟨h1, e, q⟩ := kIsN_cases k
  subst e
  refine ⟨rp_non ry, ?_⟩
  rw [isNon_of rx h1]
  exact eq _ F H _ true h Nx.refl (.bl _) q
theorem o_notN : OpR X (compareOp .IsNot) rNotN' ∧ OK2 X rNotN' kNotN := by
  refine ⟨op_notN, ?_⟩
  intro R F H σ Γ x y dx fx dy fy Q Qt hK h rx ry eq k
  obtain ⟨h1, e, q⟩ := kNotN_cases k
  subst e
  refine ⟨rp_non ry, ?_⟩
  rw [isNon_of rx h1]
  exact eq _ F H _ true h Nx.refl (.bl _) q
end
end Y

/-! Y: part 4: defs whose caller shows no container (repr is free to be called): their runs, calls, bodies, the law's own call. -/
namespace Y
open PySem PySem.Spec PyProof.Rows L2

/-- a def keeps its promise wherever nothing is being shown -/
structure FnG (P : Program) (w : World) (K : PySem.W.Frag) (mg : Str → Option Value) (base : Heap) (k : Nat) (f : Addr) (fd : FuncData) (ps : List Str) (sp : Sp) : Prop where
  many : ∀ vs H Q E, sp vs H Q E → vs.length = ps.length
  go : ∀ {A : Around} {outer : List Env} {s : Shared} {H : Hp} {args : Args} {us : List Value} {vs : List V} {Q : VK} {E : XK}, A.guards = some [] → Room k A → Env0 P w K mg base A outer s H → BindsTo s fd args (ps.zip us) → Vals vs us → sp vs H Q E →
    codeAny (model P w) A (.call (.ref f) args) (CR (L2.CX P w) outer P w H s Q E) s
theorem FnG.of {P : Program} {w : World} {K : PySem.W.Frag} {mg : Str → Option Value} {base : Heap} {k : Nat} {f : Addr} {fd : FuncData} {ps : List Str} {sp : Sp} (F : FnOk P w K mg base (L2.CX P w) k f fd ps sp) : FnG P w K mg base k f fd ps sp :=
  ⟨F.len, fun _ hr e0 hb hv hs => F.run _ _ _ _ _ _ _ _ _ hr e0 hb hv hs⟩
theorem FnG.up {P : Program} {w : World} {K : PySem.W.Frag} {mg : Str → Option Value} {base : Heap} {j k : Nat} {f : Addr} {fd : FuncData} {ps : List Str} {sp : Sp} (F : FnG P w K mg base j f fd ps sp) (h : j ≤ k) : FnG P w K mg base k f fd ps sp :=
  ⟨F.many, fun hg hr e0 hb hv hs => F.go hg (hr.mono h) e0 hb hv hs⟩

section
variable {X : Cx} {k : Nat} {f : Addr} {fd : FuncData} {ps : List Str} {sp : Sp} {E : XK} {x : Str} {p pos : Pos} {e : Expr} {es : List Expr} {t : TA}
/-- from within a body: the callee's run and what lies behind it -/
theorem FnG.within (F : FnG X.prog X.w X.K X.mg X.base k f fd ps sp) (hgd : X.A.guards = some []) (hr : Room k X.A) (hb : Binds X.K fd ps []) (hx : Passes (L2.CX X.prog X.w) X E) {pins : List (Addr × Obj)} {σ : L2.St} {H : Hp} {s : Shared} {Q : VK} {us : List Value} {vs : List V}
    (I : Inv X pins σ H s) (r : Vals vs us) (h : sp vs H Q E) : wpAny (model X.prog X.w) X.A (call (.ref f) us) (EP X pins σ Q) X.xe s := by
  have n := F.many _ _ _ _ h
  have n2 : (us ++ []).length = ps.length := by rw [List.append_nil, ← r.length, n]
  have b := hb s us I.kIn n2
  rw [List.append_nil] at b
  have run := F.go hgd hr I.env0 b r h
  apply wpAny_call
  refine codeAny_mono run ?_
  intro res s' q
  match res, q with
  | .error e, q => exact hx pins σ H s e s' I q
  | .ok (.ret u), q => exact I.after q
theorem pe_fnG (F : FnG X.prog X.w X.K X.mg X.base k f fd ps sp) (hgd : X.A.guards = some []) (hr : Room k X.A) (hm : X.mg x = some (.ref f)) (hk : PySem.W.keepIn X.K (.ref f) = true) (hb : Binds X.K fd ps []) (hx : Passes (L2.CX X.prog X.w) X E)
    (ha : PA X (e :: es) t) (hg : Gl X x := by rfl) (hdb : (x == ("__debug__" : Str)) = false := by decide) (he : starEach (e :: es) X.env = (false, eval e X.env) :: starEach es X.env := by rfl) (hpl : (backTo pos (starEach es X.env)).any (·.1) = false := by rfl) :
    PE X (.Call (.Name x p) (e :: es) [] pos) (tCall sp [] E t) := by
  constructor
  intro pins s σ H Q I h
  apply wpAny_Call_Name_kw
  refine ld_glob I hg hm ?_ hdb
  refine PySem.W.callWith_K (h₀ := X.base) I.ok.mod.kin hk ?_ he hpl
  refine thn (ha.run pos pins s σ H _ I h) ?_
  rintro us s1 ⟨vs, H1, I1, r, q⟩
  rw [List.append_nil] at q
  exact ⟨I1.kIn, F.within hgd hr hb hx I1 r q⟩
theorem pe_fnG0 (F : FnG X.prog X.w X.K X.mg X.base k f fd ps sp) (hgd : X.A.guards = some []) (hr : Room k X.A) (hm : X.mg x = some (.ref f)) (hk : PySem.W.keepIn X.K (.ref f) = true) (hb : Binds X.K fd ps []) (hx : Passes (L2.CX X.prog X.w) X E)
    (hg : Gl X x := by rfl) (hdb : (x == ("__debug__" : Str)) = false := by decide) : PE X (.Call (.Name x p) [] [] pos) (tCall sp [] E tNil) := by
  constructor
  intro pins s σ H Q I h
  apply wpAny_Call_Name_kw
  refine ld_glob I hg hm ?_ hdb
  exact PySem.W.callWith_K0 I.kIn hk (F.within (us := []) hgd hr hb hx I .nil h)
end

/-- the body of a def of the text -/
theorem fnG_of {P : Program} {w : World} {K : PySem.W.Frag} {mg : Str → Option Value} {base : Heap} {k : Nat} {f : Addr} {x qual : Str} {params : Arguments} {body : List Stmt} {scope : Scope} {fd : FuncData} {N ps : List Str} {sp : Sp}
    (F : FunD K x qual params body scope [] [] f fd) (S : FnScope N ps scope) (len : ∀ vs H Q E, sp vs H Q E → vs.length = ps.length)
    (hbody : ∀ (cdv : Value) (A : Around) (outer : List Env) (s : Shared) (H : Hp) (vs : List V) (Q : VK) (E : XK), (A.deeper (envOfC qual scope s.heap.objs.size f cdv)).guards = some [] → Room k (A.deeper (envOfC qual scope s.heap.objs.size f cdv)) → sp vs H Q E →
      ∃ t, PSs (cxOf (L2.CX P w) P w K mg base N qual scope f cdv A outer s H E) body t ∧ t { nx := fun _ H' => Q .non H', rt := Q } (start N vs) H) : FnG P w K mg base (k + 1) f fd ps sp := by
  obtain ⟨oc, od, dV, kV, doc, pm, an, cdv, ct, osl, rfl, lk, hcd, _, _⟩ := F.ex
  refine ⟨len, ?_⟩
  intro A outer s H args us vs Q E hgd hr e0 hb r hsp
  have stands : ∀ b o, base.get? b = some o → s.heap.get? b = some o := fun b o e => (e0.bs b o e).1
  have KX : K.In s.heap := e0.mod.kin.keeps stands
  have lim : s.heap.NoLimit := e0.mod.nolimit.keeps stands
  have kinds : ∀ y ∈ ps.zip us, scope.names.lookup y.1 = some .local ∨ (scope.names.lookup y.1 = some .cell ∧ ((cellsFrom (s.heap.objs.size + 1) scope.names []).lookup y.1).isSome = true) := by
    rintro ⟨n, v⟩ hy
    rcases S.par n (List.of_mem_zip hy).1 with q | q
    · exact .inl q
    · exact .inr ⟨q, PySem.W.cellsFrom_some _ _ _ (.inl q)⟩
  refine codeAny_call_function hr.depth (KX _ _ lk) rfl S.co S.gen rfl (PySem.W.codeRec_of KX hcd) (hb _ _ _ _ ?_)
  refine wpAny_newFunctionEnv_cells S.kind kinds ?_
  intro env he s1 x1
  subst he
  refine ⟨lim.keeps x1.toInCall.keep, codeAny_func ?_⟩
  obtain ⟨t, ht, hq⟩ := hbody cdv A outer s H vs Q E hgd (hr.deeper _) hsp
  have I := inv_start (P := P) (w := w) (K := K) (mg := mg) (base := base) (qual := qual) (f := f) (cd := cdv) (CX := L2.CX P w) (E := E) S hr.hd e0 (len _ _ _ _ hsp) r x1
  refine wpAny_mono (ht.run [] s1 (start N vs) H _ I hq) ?_ (fun _ _ z => z)
  intro fl s' hs
  match fl, hs with
  | .ret u, ⟨v, σ', H', J, rv, q⟩ => exact ⟨v, H', J.os, J.bare, J.base, J.hok, rv, q⟩
  | .next, ⟨σ', H', J, q⟩ => exact ⟨.non, H', J.os, J.bare, J.base, J.hok, rfl, q⟩
  | .brk, ⟨_, _, _, q⟩ => exact False.elim q
  | .cont, ⟨_, _, _, q⟩ => exact False.elim q
end Y

/-! Y: part 5: what is looked into (views), subscripts, in, calls. -/
namespace Y
open PySem L2

/-! ### what is looked into: a value, or the thing of one's own in a slot -/
inductive Vw where
  | val (d : D) (fr : Bool) | own (i : Nat)
@[reducible] def lkV (Γ : En) : Vw → Option (D × Bool)
  | .val d fr => some (d, fr)
  | .own i => match gt Γ i with
    | some (.own o fr) => some (o, fr)
    | some (.ino o) => some (o, false)
    | _ => none
def VwOk (R : Rl) (F : Hp) (σ : L2.St) (v : V) : Vw → Prop
  | .val d fr => Rpf R F fr v d
  | .own i => σ[i]? = some (some v)
abbrev WV := EX → En → (Vw → En → Prop) → Prop
def VQ (R : Rl) (F H : Hp) (σ : L2.St) (Γ : En) (Q : Vw → En → Prop) (Qt : VK) : Prop := ∀ v F' H' Γ' vw, Hd R F' H' σ Γ' → Nx σ F H Γ F' H' Γ' → VwOk R F' σ v vw → Q vw Γ' → Qt v H'
def SV (X : Cx) (E : XK) (te : TE) (w : WV) : Prop := ∀ (R : Rl) (F H : Hp) (σ : L2.St) (Γ : En) (ex : EX) Q Qt, Go X R E ex → Hd R F H σ Γ → VQ R F H σ Γ Q Qt → w ex Γ Q → te σ H Qt
def PWV (X : Cx) (E : XK) (e : Expr) (w : WV) : Prop := ∃ te : TE, PE X e te ∧ SV X E te w
theorem VwOk.mono {R : Rl} {F F' : Hp} {σ : L2.St} {v : V} (x : Ex F F') : ∀ {vw : Vw}, VwOk R F σ v vw → VwOk R F' σ v vw
  | .val _ _, h => Rp.mono (fF_mono x) h
  | .own _, h => h
/-- what is seen of a thing -/
def Sees (R : Rl) (F H : Hp) (v : V) (d : D) (fr : Bool) : Prop := match d with
  | .lst ds => ∃ p vs, v = .ref p ∧ H p = some (.lst vs) ∧ RpAll (fF R F fr) vs ds
  | .tup ds => ∃ p vs, v = .ref p ∧ H p = some (.tup vs) ∧ RpAll (fF R F fr) vs ds
  | .dk ds => ∃ p vs, v = .ref p ∧ RdD H p (.dK vs) ∧ RpK (fF R F fr) vs ds
  | .dt ds => ∃ p vs, v = .ref p ∧ RdD H p (.dT vs) ∧ RpT (fF R F fr) vs ds
  | d => Rpf R F fr v d
theorem Sees.of {R : Rl} {F H : Hp} {v : V} {d : D} {fr : Bool} (sub : ∀ a u, F a = some u → RdD H a u) (r : Rpf R F fr v d) : Sees R F H v d fr := by
  cases r with
  | lst e r => exact ⟨_, _, rfl, RdD.lst (sub _ _ (fF_ex _ _ e)), r⟩
  | tup e r => exact ⟨_, _, rfl, RdD.tup (sub _ _ (fF_ex _ _ e)), r⟩
  | dk e r => exact ⟨_, _, rfl, sub _ _ (fF_ex _ _ e), r⟩
  | dt e r => exact ⟨_, _, rfl, sub _ _ (fF_ex _ _ e), r⟩
  | non => exact .non
  | bl b => exact .bl b
  | int b => exact .int b
  | str b => exact .str b
  | opq b => exact .opq _
theorem Sees.top {R : Rl} {F H : Hp} {p : Addr} {o : D} {fr : Bool} (t : TopH (fF R F fr) H p o) : Sees R F H (.ref p) o fr := by
  cases o with
  | lst ds => obtain ⟨vs, e, r⟩ := t; exact ⟨p, vs, rfl, e, r⟩
  | dk ds => obtain ⟨vs, e, r⟩ := t; exact ⟨p, vs, rfl, .inl e, r⟩
  | dt ds => obtain ⟨vs, e, r⟩ := t; exact ⟨p, vs, rfl, .inl e, r⟩
  | _ => exact t.elim
theorem vw_sees {R : Rl} {F H : Hp} {σ : L2.St} {Γ : En} (h : Hd R F H σ Γ) {v : V} {vw : Vw} {d : D} {fr : Bool} (ok : VwOk R F σ v vw) (l : lkV Γ vw = some (d, fr)) : Sees R F H v d fr := by
  cases vw with
  | val d' fr' =>
    have e : (d', fr') = (d, fr) := Option.some.inj l
    injection e with e1 e2
    subst e1
    subst e2
    exact Sees.of h.sub ok
  | own i =>
    unfold lkV at l
    cases q : gt Γ i with
    | none => simp only [q] at l; cases l
    | some s =>
      obtain ⟨v', e1, so⟩ := h.sl i s q
      have e2 : v' = v := by
        have ok' : σ[i]? = some (some v) := ok
        rw [e1] at ok'
        cases ok'
        rfl
      subst e2
      cases s with
      | own o f2 =>
        simp only [q] at l
        cases l
        obtain ⟨p, e3, _, _, t⟩ := so
        subst e3
        exact Sees.top t
      | ino o =>
        simp only [q] at l
        cases l
        obtain ⟨p, e3, _, t⟩ := so
        subst e3
        exact Sees.top (fr := false) t
      | dat _ _ => simp only [q] at l; cases l
      | raw _ => simp only [q] at l; cases l
      | scr _ => simp only [q] at l; cases l
      | old _ => simp only [q] at l; cases l
section
variable {X : Cx} {E : XK} {e a b c : Expr} {es : List Expr} {pos : Pos} {wa wb wc : WE} {va vb : WV}
@[reducible] def wVal (w : WE) : WV := fun ex Γ Q => w ex Γ fun d fr Γ' => Q (.val d fr) Γ'
theorem pv_of {w : WE} (h : PWE X E e w) : PWV X E e (wVal w) := by
  obtain ⟨te, pe, ke⟩ := h
  exact ⟨te, pe, fun R F H σ Γ ex Q Qt g hd vq w => ke R F H σ Γ ex _ _ g hd (fun v F' H' Γ' d fr h1 x1 r1 q => vq v F' H' Γ' (.val d fr) h1 x1 r1 q) w⟩
/-- a name that is looked into: data, or the thing of one's own -/
@[reducible] def wLook (i : Nat) : WV := fun _ Γ Q => match gt Γ i with
  | some (.dat d fr) => Q (.val d fr) Γ
  | some (.own _ _) => Q (.own i) Γ
  | some (.ino _) => Q (.own i) Γ
  | some (.old d) => Q (.val d false) Γ
  | _ => False
theorem pv_name (i : Nat) {x : Str} (hN : X.N[i]? = some x := by rfl) (hv : Vis X.env.scope x := by first | exact Or.inl rfl | exact Or.inr (Or.inl rfl) | exact Or.inr (Or.inr rfl)) (hd : (x == ("__debug__" : Str)) = false := by decide)
    (hcd : (x == ("__classdict__" : Str)) = false := by decide) : PWV X E (.Name x pos) (wLook i) := by
  refine ⟨tVar i, pe_var hN hv hd hcd, fun R F H σ Γ ex Q Qt g h vq w => ?_⟩
  unfold wLook at w
  cases q : gt Γ i with
  | none => simp only [q] at w
  | some s =>
    obtain ⟨v, e1, ok⟩ := h.sl i s q
    cases s with
    | dat d fr =>
      simp only [q] at w
      exact ⟨v, e1, vq v F H Γ (.val d fr) h Nx.refl ok w⟩
    | own o fr =>
      simp only [q] at w
      exact ⟨v, e1, vq v F H Γ (.own i) h Nx.refl e1 w⟩
    | ino o =>
      simp only [q] at w
      exact ⟨v, e1, vq v F H Γ (.own i) h Nx.refl e1 w⟩
    | raw u => simp only [q] at w
    | scr ns => simp only [q] at w
    | old d =>
      simp only [q] at w
      exact ⟨v, e1, vq v F H Γ (.val d false) h Nx.refl (Rp.mono h.f0 ok) w⟩

/-! ### a[b] -/
abbrev KIx := D → Bool → D → (D → Bool → Prop) → Prop
def OIx (X : Cx) (r : R2) (k : KIx) : Prop := ∀ (R : Rl) (F H : Hp) (σ : L2.St) (Γ : En) x y dx fx dy fy Q Qt, R.K = X.K → Hd R F H σ Γ → Sees R F H x dx fx → Rpf R F fy y dy → KQ R F H σ Γ Q Qt → k dx fx dy Q → r x y H Qt
@[reducible] def wIx (k : KIx) (va : WV) (wb : WE) : WE := fun ex Γ Q => va ex Γ fun vw Γ1 => wb ex Γ1 fun y _ Γ2 => match lkV Γ2 vw with
  | some (d, fr) => k d fr y fun z fz => Q z fz Γ2
  | none => False
theorem ok_ix {r : R2} {k : KIx} (hk : OIx X r k) {ta tb : TE} (ka : SV X E ta va) (kb : SE X E tb wb) : SE X E (tOp r ta tb) (wIx k va wb) := by
  intro R F H σ Γ ex Q Qt g h eq w
  refine ka R F H σ Γ ex _ _ g h (fun x F1 H1 Γ1 vw h1 x1 r1 w1 => kb R F1 H1 σ Γ1 ex _ _ g h1 (fun y F2 H2 Γ2 dy fy h2 x2 r2 w2 => ?_) w1) w
  cases l : lkV Γ2 vw with
  | none => simp only [l] at w2
  | some q =>
    obtain ⟨d, fr⟩ := q
    simp only [l] at w2
    exact hk R F2 H2 σ Γ2 x y d fr dy fy _ Qt g.K h2 (vw_sees h2 (r1.mono x2.ex) l) r2 (fun v F3 H3 d fr h3 x3 r3 q => eq v F3 H3 Γ2 d fr h3 ((x1.trans x2).trans x3) r3 q) w2
@[reducible] def keyOf : D → Option Key
  | .int i => some (.inl i)
  | .str x => some (.inr x)
  | _ => none
@[reducible] def keysOf : List D → Option (List Key)
  | [] => some []
  | d :: ds => match keyOf d, keysOf ds with
    | some k, some ks => some (k :: ks)
    | _, _ => none
@[reducible] def lookD {κ : Type} [DecidableEq κ] (kvs : List (κ × D)) (k : κ) : Option D := (kvs.find? fun kv => decide (kv.1 = k)).map (·.2)
def RpO (F : Hp) : Option V → Option D → Prop
  | some v, some d => Rp F v d
  | none, none => True
  | _, _ => False
theorem RpO.there {F : Hp} {o : Option V} {d : D} (h : RpO F o (some d)) : ∃ v, o = some v ∧ Rp F v d := by
  cases o with
  | none => exact h.elim
  | some v => exact ⟨v, rfl, h⟩
theorem RpO.away {F : Hp} {o : Option V} (h : RpO F o none) : o = none := by
  cases o with
  | none => rfl
  | some v => exact h.elim
theorem RpO.isSome {F : Hp} {o : Option V} {d : Option D} (h : RpO F o d) : o.isSome = d.isSome := by
  cases o <;> cases d <;> first | rfl | exact h.elim
theorem rpK_val {F : Hp} {k : Key} : ∀ {vs : List (Key × V)} {ds : List (Key × D)}, RpK F vs ds → RpO F (valV vs k) (lookD ds k)
  | _, _, .nil => trivial
  | _, _, .cons (k := j) (v := v) (d := d) (vs := vs) (ds := ds) h r => by
    by_cases e : j = k
    · have e1 : lookD ((j, d) :: ds) k = some d := by simp [lookD, List.find?_cons, e]
      have e2 : valV ((j, v) :: vs) k = some v := valV_pos e
      rw [e1, e2]
      exact h
    · have e1 : lookD ((j, d) :: ds) k = lookD ds k := by simp [lookD, List.find?_cons, e]
      have e2 : valV ((j, v) :: vs) k = valV vs k := valV_neg e
      rw [e1, e2]
      exact rpK_val r
theorem rpT_val {F : Hp} {k : List Key} : ∀ {vs : List (List Key × V)} {ds : List (List Key × D)}, RpT F vs ds → RpO F (valV vs k) (lookD ds k)
  | _, _, .nil => trivial
  | _, _, .cons (k := j) (v := v) (d := d) (vs := vs) (ds := ds) h r => by
    by_cases e : j = k
    · have e1 : lookD ((j, d) :: ds) k = some d := by simp [lookD, List.find?_cons, e]
      have e2 : valV ((j, v) :: vs) k = some v := valV_pos e
      rw [e1, e2]
      exact h
    · have e1 : lookD ((j, d) :: ds) k = lookD ds k := by simp [lookD, List.find?_cons, e]
      have e2 : valV ((j, v) :: vs) k = valV vs k := valV_neg e
      rw [e1, e2]
      exact rpT_val r
theorem keyOf_rp {F : Hp} {d : D} {v : V} {k : Key} (h : keyOf d = some k) (r : Rp F v d) : v = kV k := by
  cases r <;> first | (cases h; rfl) | cases h
theorem keysOf_rp {F : Hp} : ∀ {ds : List D} {vs : List V} {ks : List Key}, keysOf ds = some ks → RpAll F vs ds → vs = ks.map kV
  | [], _, _, h, .nil => by cases h; rfl
  | d :: ds, _, ks, h, .cons a r => by
    unfold keysOf at h
    cases q : keyOf d with
    | none => simp [q] at h
    | some k => cases q2 : keysOf ds with
      | none => simp [q, q2] at h
      | some kr =>
        simp only [q, q2] at h
        cases h
        rw [keyOf_rp q a, keysOf_rp q2 r]
        rfl
/-- d[i] by data -/
@[reducible] def kIx : KIx := fun d fr y Q => match d, y with
  | .lst ds, .int i => (match atI ds i with | some z => Q z (fr || flt z) | none => False)
  | .tup ds, .int i => (match atI ds i with | some z => Q z (fr || flt z) | none => False)
  | .dk kvs, y => (match keyOf y with
    | some k => (match lookD kvs k with | some z => Q z (fr || flt z) | none => False)
    | none => False)
  | .dt kvs, .tup ks => (match keysOf ks with
    | some k => (match lookD kvs k with | some z => Q z (fr || flt z) | none => False)
    | none => False)
  | _, _ => False
theorem atI_rp {F : Hp} {vs : List V} {ds : List D} {i : Int} {d : D} (r : RpAll F vs ds) (h : atI ds i = some d) : ∃ v, atI vs i = some v ∧ Rp F v d := by
  unfold atI at h ⊢
  rw [r.length]
  cases q : ixN ds.length i with
  | none => rw [q] at h; cases h
  | some j =>
    rw [q] at h
    exact r.get h
def rIxAll (K : PySem.W.Frag) : R2 := fun x y H Q => (rIxL K x y H Q ∨ rIxT K x y H Q) ∨ ∃ a v, x = .ref a ∧ DGet H a y (some v) ∧ Q v H
theorem ix_all (hu : X.A.units + 1 < cLine) : IxR X (rIxAll X.K) := by
  intro value slice pins s σ H x y v u Q I rx ry h hs
  rcases h with h | ⟨a, z, ex, g, q⟩
  · exact (ix_list.or ix_tup) value slice pins s σ H x y v u Q I rx ry h hs
  · subst ex
    obtain rfl : v = Value.ref a := rx
    exact PyProof.Rows.tail_any (dict_typeIs I g) PySem.F.slot_dict_getitem.lookup (d_getItem hu I g ry fun w' s' I' rw' => ⟨z, H, I', rw', q⟩) hs
theorem oix_all : OIx X (rIxAll X.K) kIx := by
  intro R F H σ Γ x y dx fx dy fy Q Qt hK h sx ry eq k
  have sq : ∀ {p : Addr} {vs : List V}, H p = some (.lst vs) → SqL X.K H p vs := fun e => .inl (.inl e)
  have sqt : ∀ {p : Addr} {vs : List V}, H p = some (.tup vs) → SqT X.K H p vs := fun e => .inl (.inl e)
  cases dx with
  | lst ds =>
    obtain ⟨p, vs, e1, e2, r⟩ := sx
    subst e1
    cases dy with
    | int i =>
      unfold kIx at k
      cases q : atI ds i with
      | none => simp only [q] at k
      | some z =>
        simp only [q] at k
        obtain ⟨v, e3, rz⟩ := atI_rp r q
        exact .inl (.inl ⟨p, vs, i, v, rfl, rp_int ry, sq e2, e3, eq v F H z _ h Nx.refl (Rp.fq (R := R) rz) k⟩)
    | _ => exact k.elim
  | tup ds =>
    obtain ⟨p, vs, e1, e2, r⟩ := sx
    subst e1
    cases dy with
    | int i =>
      unfold kIx at k
      cases q : atI ds i with
      | none => simp only [q] at k
      | some z =>
        simp only [q] at k
        obtain ⟨v, e3, rz⟩ := atI_rp r q
        exact .inl (.inr ⟨p, vs, i, v, rfl, rp_int ry, sqt e2, e3, eq v F H z _ h Nx.refl (Rp.fq (R := R) rz) k⟩)
    | _ => exact k.elim
  | dk kvs =>
    obtain ⟨p, vs, e1, e2, r⟩ := sx
    subst e1
    unfold kIx at k
    cases q : keyOf dy with
    | none => simp only [q] at k
    | some ky =>
      simp only [q] at k
      have ey := keyOf_rp q ry
      subst ey
      have vl := rpK_val (k := ky) r
      cases q2 : lookD kvs ky with
      | none => simp only [q2] at k
      | some z =>
        simp only [q2] at k vl
        obtain ⟨v, e3, rz⟩ := vl.there
        exact .inr ⟨p, v, rfl, .inl ⟨vs, ky, e2.rd, rfl, e3.symm⟩, eq v F H z _ h Nx.refl (Rp.fq (R := R) rz) k⟩
  | dt kvs =>
    obtain ⟨p, vs, e1, e2, r⟩ := sx
    subst e1
    cases dy with
    | tup ks =>
      unfold kIx at k
      cases q : keysOf ks with
      | none => simp only [q] at k
      | some ky =>
        simp only [q] at k
        have hy : ∃ b ws, y = .ref b ∧ H b = some (.tup ws) ∧ RpAll (fF R F fy) ws ks := by
          cases ry with
          | tup e r => exact ⟨_, _, rfl, RdD.tup (h.sub _ _ (fF_ex _ _ e)), r⟩
        obtain ⟨b, ws, e4, e5, rk⟩ := hy
        have ew := keysOf_rp q rk
        subst ew
        subst e4
        have vl := rpT_val (k := ky) r
        cases q2 : lookD kvs ky with
        | none => simp only [q2] at k
        | some z =>
          simp only [q2] at k vl
          obtain ⟨v, e3, rz⟩ := vl.there
          exact .inr ⟨p, v, rfl, .inr ⟨vs, ky, b, e2.rd, rfl, e5, e3.symm⟩, eq v F H z _ h Nx.refl (Rp.fq (R := R) rz) k⟩
    | _ => exact k.elim
  | _ => exact k.elim
theorem pw_ix (hu : X.A.units + 1 < cLine) (ha : PWV X E a va) (hb : PWE X E b wb) (hs : PlainIx b := by intro _ _; rfl) : PWE X E (.Subscript a b pos) (wIx kIx va wb) := by
  obtain ⟨ta, pa, ka⟩ := ha
  obtain ⟨tb, pb, kb⟩ := hb
  exact ⟨_, pe_ix (ix_all hu) pa pb hs, ok_ix oix_all ka kb⟩
end
end Y

/-! Y: part 6: in, built-in calls, calls of the text's own defs. -/
namespace Y
open PySem L2

section
variable {X : Cx} {E : XK} {e a b c : Expr} {es : List Expr} {pos p : Pos} {x : Str} {wa wb wc : WE} {va vb : WV}

/-! ### in, not in (the container looked into) -/
abbrev KIn := D → Bool → D → Bool → (Bool → Prop) → Prop
/-- x in d by data -/
@[reducible] def kIn (x : D) (d : D) (Q : Bool → Prop) : Prop := match d with
  | .lst ds => (okD x = true ∧ okD (.lst ds) = true) ∧ Q (ds.any fun z => PyData.eqv (pd z) (pd x))
  | .tup ds => ∃ (i : Int) (ns : List Int), x = .int i ∧ ds = ns.map .int ∧ Q (decide (i ∈ ns))
  | .dk kvs => (match keyOf x with
    | some k => Q (lookD kvs k).isSome
    | none => False)
  | .dt kvs => (match x with
    | .tup ks => (match keysOf ks with
      | some k => Q (lookD kvs k).isSome
      | none => False)
    | _ => False)
  | _ => False
@[reducible] def wIn (wa : WE) (vb : WV) : WE := fun ex Γ Q => wa ex Γ fun x _ Γ1 => vb ex Γ1 fun vw Γ2 => match lkV Γ2 vw with
  | some (d, _) => kIn x d fun r => Q (.bl r) true Γ2
  | none => False
@[reducible] def wNotIn (wa : WE) (vb : WV) : WE := fun ex Γ Q => wa ex Γ fun x _ Γ1 => vb ex Γ1 fun vw Γ2 => match lkV Γ2 vw with
  | some (d, _) => kIn x d fun r => Q (.bl (!r)) true Γ2
  | none => False
def rInAll (K : PySem.W.Frag) : R2 := fun x y H Q => (rInD K x y H Q ∨ rIn K false x y H Q) ∨ ∃ a o, y = .ref a ∧ DGet H a x o ∧ Q (.bl o.isSome) H
def rNotInAll (K : PySem.W.Frag) : R2 := fun x y H Q => (rNotInD K x y H Q ∨ rIn K true x y H Q) ∨ ∃ a o, y = .ref a ∧ DGet H a x o ∧ Q (.bl (!o.isSome)) H
theorem op_inAll (hu : X.A.units + 65 < cLine) : OpR X (compareOp .In) (rInAll X.K) := by
  intro pins s σ H x y v u Q I rx ry h
  rcases h with h | ⟨a, o, ey, g, q⟩
  · exact (op_inD hu).or op_in_seq pins s σ H x y v u Q I rx ry h
  · subst ey
    obtain rfl : u = Value.ref a := ry
    exact d_in (by omega) I g rx fun s' I' => ⟨.bl o.isSome, H, I', rfl, q⟩
theorem op_notInAll (hu : X.A.units + 65 < cLine) : OpR X (compareOp .NotIn) (rNotInAll X.K) := by
  intro pins s σ H x y v u Q I rx ry h
  rcases h with h | ⟨a, o, ey, g, q⟩
  · exact (op_notInD hu).or op_notIn_seq pins s σ H x y v u Q I rx ry h
  · subst ey
    obtain rfl : u = Value.ref a := ry
    exact d_notIn (by omega) I g rx fun s' I' => ⟨.bl (!o.isSome), H, I', rfl, q⟩
theorem pdAll_any (x : D) : ∀ ds : List D, ((pdAll ds).any fun z => PyData.eqv z (pd x)) = ds.any fun z => PyData.eqv (pd z) (pd x)
  | [] => rfl
  | d :: ds => by
    unfold pdAll
    rw [List.any_cons, List.any_cons, pdAll_any x ds]
theorem inV_ints (i : Int) : ∀ ns : List Int, inV (.int i) (ns.map V.int) = decide (i ∈ ns)
  | [] => rfl
  | n :: r => by
    have ih := inV_ints i r
    unfold inV at ih ⊢
    rw [List.map_cons, List.any_cons, ih]
    show ((n == i) || decide (i ∈ r)) = decide (i ∈ n :: r)
    by_cases h : n = i
    · subst h
      simp
    · have h2 : (n == i) = false := by simpa using h
      have h3 : ¬ i = n := fun z => h z.symm
      rw [h2]
      simp [h3]
theorem flat_ints (ns : List Int) : (ns.map V.int).all flatV = true := by
  rw [List.all_eq_true]
  intro v hv
  obtain ⟨n, _, e⟩ := List.mem_map.mp hv
  subst e
  rfl
theorem dp_lst {R : Rl} {F H : Hp} {K : PySem.W.Frag} {v : V} {ds : List D} {fr : Bool} (sub : ∀ a u, F a = some u → RdD H a u) (s : Sees R F H v (.lst ds) fr) (h : plain (.lst ds) = true) : Dp K H v (pd (.lst ds)) := by
  obtain ⟨p, vs, e1, e2, r⟩ := s
  subst e1
  unfold plain at h
  unfold pd
  exact .lst (.inl (.inl e2)) (RpAll.dp sub (r.mono fF_ex) h)
theorem shaped_lst {ds : List D} (h : okD (.lst ds) = true) : SeqAt.shaped (.list (pdAll ds)) = true := by
  have := shaped_pd h
  unfold pd at this
  exact this
theorem ok_in_core {R : Rl} {F H : Hp} {σ : L2.St} {Γ : En} {v : V} {d : D} {fr : Bool} {xv : V} {xd : D} {fx : Bool} {Qr : Bool → Prop} {Qt : V → Hp → Prop} (hK : R.K = X.K) (h : Hd R F H σ Γ) (rx : Rpf R F fx xv xd) (s : Sees R F H v d fr) (k : kIn xd d Qr) (eq : ∀ b, Qr b → Qt (.bl b) H) :
    rInAll X.K xv v H Qt := by
  cases d with
  | lst ds =>
    obtain ⟨⟨h1, h2⟩, q⟩ := k
    obtain ⟨p1, _⟩ := Bool.and_eq_true_iff.mp h1
    obtain ⟨p2, _⟩ := Bool.and_eq_true_iff.mp h2
    have dl : Dp X.K H v (.list (pdAll ds)) := by
      have z := dp_lst (K := X.K) h.sub s p2
      unfold pd at z
      exact z
    exact .inl (.inl ⟨pd xd, pdAll ds, Rp.dp h.sub (rx.mono fF_ex) p1, dl, shaped_pd h1, shaped_lst h2, by rw [pdAll_any]; exact eq _ q⟩)
  | tup ds =>
    obtain ⟨i, ns, e1, e2, q⟩ := k
    subst e1
    subst e2
    obtain ⟨p, vs, e3, e4, r⟩ := s
    have e5 := r.of_ints
    subst e5
    have e6 := rp_int rx
    subst e6
    exact .inl (.inr ⟨p, _, e3, .inr (.inl (.inl e4)), rfl, flat_ints ns, by rw [inV_ints]; exact eq _ q⟩)
  | dk kvs =>
    obtain ⟨p, vs, e3, e4, r⟩ := s
    unfold kIn at k
    cases q : keyOf xd with
    | none => simp only [q] at k
    | some ky =>
      simp only [q] at k
      have e5 := keyOf_rp q rx
      subst e5
      have vl := rpK_val (k := ky) r
      exact .inr ⟨p, valV vs ky, e3, .inl ⟨vs, ky, e4.rd, rfl, rfl⟩, by rw [vl.isSome]; exact eq _ k⟩
  | dt kvs =>
    obtain ⟨p, vs, e3, e4, r⟩ := s
    cases xd with
    | tup ks =>
      unfold kIn at k
      cases q : keysOf ks with
      | none => simp only [q] at k
      | some ky =>
        simp only [q] at k
        have hy : ∃ b ws, xv = .ref b ∧ H b = some (.tup ws) ∧ RpAll (fF R F fx) ws ks := by
          cases rx with
          | tup e r => exact ⟨_, _, rfl, RdD.tup (h.sub _ _ (fF_ex _ _ e)), r⟩
        obtain ⟨b, ws, e6, e7, rk⟩ := hy
        have ew := keysOf_rp q rk
        subst ew
        subst e6
        have vl := rpT_val (k := ky) r
        exact .inr ⟨p, valV vs ky, e3, .inr ⟨vs, ky, b, e4.rd, rfl, e7, rfl⟩, by rw [vl.isSome]; exact eq _ k⟩
    | _ => exact k.elim
  | _ => exact k.elim
theorem ok_notin_core {R : Rl} {F H : Hp} {σ : L2.St} {Γ : En} {v : V} {d : D} {fr : Bool} {xv : V} {xd : D} {fx : Bool} {Qr : Bool → Prop} {Qt : V → Hp → Prop} (hK : R.K = X.K) (h : Hd R F H σ Γ) (rx : Rpf R F fx xv xd) (s : Sees R F H v d fr) (k : kIn xd d Qr) (eq : ∀ b, Qr b → Qt (.bl (!b)) H) :
    rNotInAll X.K xv v H Qt := by
  have z := ok_in_core (X := X) (Qt := fun u _ => ∃ b, u = .bl b ∧ Qt (.bl (!b)) H) hK h rx s k fun b q => ⟨b, rfl, eq b q⟩
  rcases z with (⟨d1, ds, h1, h2, h3, h4, b, e, q⟩ | ⟨p, xs, h1, h2, h3, h4, b, e, q⟩) | ⟨a, o, h1, h2, b, e, q⟩
  · injection e with e'
    subst e'
    exact .inl (.inl ⟨d1, ds, h1, h2, h3, h4, q⟩)
  · injection e with e'
    subst e'
    exact .inl (.inr ⟨p, xs, h1, h2, h3, h4, q⟩)
  · injection e with e'
    subst e'
    exact .inr ⟨a, o, h1, h2, q⟩
theorem ok_in {ta tb : TE} (ka : SE X E ta wa) (kb : SV X E tb vb) : SE X E (tOp (rInAll X.K) ta tb) (wIn wa vb) := by
  intro R F H σ Γ ex Q Qt g h eq w
  refine ka R F H σ Γ ex _ _ g h (fun x F1 H1 Γ1 dx fx h1 x1 r1 w1 => kb R F1 H1 σ Γ1 ex _ _ g h1 (fun y F2 H2 Γ2 vw h2 x2 r2 w2 => ?_) w1) w
  cases l : lkV Γ2 vw with
  | none => simp only [l] at w2
  | some q =>
    obtain ⟨d, fr⟩ := q
    simp only [l] at w2
    exact ok_in_core g.K h2 (r1.mono (fF_mono x2.ex)) (vw_sees h2 r2 l) w2 fun b q => eq _ F2 H2 Γ2 _ true h2 (x1.trans x2) (.bl b) q
theorem ok_notin {ta tb : TE} (ka : SE X E ta wa) (kb : SV X E tb vb) : SE X E (tOp (rNotInAll X.K) ta tb) (wNotIn wa vb) := by
  intro R F H σ Γ ex Q Qt g h eq w
  refine ka R F H σ Γ ex _ _ g h (fun x F1 H1 Γ1 dx fx h1 x1 r1 w1 => kb R F1 H1 σ Γ1 ex _ _ g h1 (fun y F2 H2 Γ2 vw h2 x2 r2 w2 => ?_) w1) w
  cases l : lkV Γ2 vw with
  | none => simp only [l] at w2
  | some q =>
    obtain ⟨d, fr⟩ := q
    simp only [l] at w2
    exact ok_notin_core g.K h2 (r1.mono (fF_mono x2.ex)) (vw_sees h2 r2 l) w2 fun b q => eq _ F2 H2 Γ2 _ true h2 (x1.trans x2) (.bl (!b)) q
theorem pw_in (hu : X.A.units + 65 < cLine) (ha : PWE X E a wa) (hb : PWV X E b vb) (hm : behindInMarks .In b = false := by rfl) : PWE X E (.Compare a [.In] [b] pos) (wIn wa vb) := by
  obtain ⟨ta, pa, ka⟩ := ha
  obtain ⟨tb, pb, kb⟩ := hb
  exact ⟨_, pe_cmpR (op_inAll hu) pa pb hm, ok_in ka kb⟩
theorem pwt_in (hu : X.A.units + 65 < cLine) (ha : PWE X E a wa) (hb : PWV X E b vb) (hm : behindInMarks .In b = false := by rfl) : PWT X E (.Compare a [.In] [b] pos) (wTst (wIn wa vb)) := by
  obtain ⟨ta, pa, ka⟩ := ha
  obtain ⟨tb, pb, kb⟩ := hb
  exact ⟨_, pt_cmpR (op_inAll hu) pa pb hm, fun R F H σ Γ ex Q Qt g h eq w => ok_tst (ok_in ka kb) g h eq w⟩
theorem pw_notin (hu : X.A.units + 65 < cLine) (ha : PWE X E a wa) (hb : PWV X E b vb) (hm : behindInMarks .NotIn b = false := by rfl) : PWE X E (.Compare a [.NotIn] [b] pos) (wNotIn wa vb) := by
  obtain ⟨ta, pa, ka⟩ := ha
  obtain ⟨tb, pb, kb⟩ := hb
  exact ⟨_, pe_cmpR (op_notInAll hu) pa pb hm, ok_notin ka kb⟩
theorem pwt_notin (hu : X.A.units + 65 < cLine) (ha : PWE X E a wa) (hb : PWV X E b vb) (hm : behindInMarks .NotIn b = false := by rfl) : PWT X E (.Compare a [.NotIn] [b] pos) (wTst (wNotIn wa vb)) := by
  obtain ⟨ta, pa, ka⟩ := ha
  obtain ⟨tb, pb, kb⟩ := hb
  exact ⟨_, pt_cmpR (op_notInAll hu) pa pb hm, fun R F H σ Γ ex Q Qt g h eq w => ok_tst (ok_notin ka kb) g h eq w⟩
/-! ### == with what is looked into (waiting != []) -/
@[reducible] def wCmpV (k : K2) (va : WV) (wb : WE) : WE := fun ex Γ Q => va ex Γ fun vw Γ1 => wb ex Γ1 fun y fy Γ2 => match lkV Γ2 vw with
  | some (d, fr) => k d fr y fy fun z fz => Q z fz Γ2
  | none => False
theorem sees_dp {R : Rl} {F H : Hp} {K : PySem.W.Frag} {v : V} {d : D} {fr : Bool} (sub : ∀ a u, F a = some u → RdD H a u) (s : Sees R F H v d fr) (h : plain d = true) : Dp K H v (pd d) := by
  cases d with
  | lst ds => exact dp_lst sub s h
  | tup ds =>
    obtain ⟨p, vs, e1, e2, r⟩ := s
    subst e1
    unfold plain at h
    unfold pd
    exact .tup (.inl (.inl e2)) (RpAll.dp sub (r.mono fF_ex) h)
  | dk _ => unfold plain at h; cases h
  | dt _ => unfold plain at h; cases h
  | non => exact Rp.dp sub (Rp.mono fF_ex s) h
  | bl _ => exact Rp.dp sub (Rp.mono fF_ex s) h
  | int _ => exact Rp.dp sub (Rp.mono fF_ex s) h
  | str _ => exact Rp.dp sub (Rp.mono fF_ex s) h
  | opq _ => unfold plain at h; cases h
theorem ok_eqV {ta tb : TE} (ka : SV X E ta va) (kb : SE X E tb wb) : SE X E (tOp (fun x y H Q => rEq x y H Q ∨ rEqD X.K x y H Q) ta tb) (wCmpV kEq va wb) := by
  intro R F H σ Γ ex Q Qt g h eq w
  refine ka R F H σ Γ ex _ _ g h (fun x F1 H1 Γ1 vw h1 x1 r1 w1 => kb R F1 H1 σ Γ1 ex _ _ g h1 (fun y F2 H2 Γ2 dy fy h2 x2 r2 w2 => ?_) w1) w
  cases l : lkV Γ2 vw with
  | none => simp only [l] at w2
  | some q =>
    obtain ⟨d, fr⟩ := q
    simp only [l] at w2
    have s := vw_sees h2 (r1.mono x2.ex) l
    rcases kEq_cases w2 with ⟨i, j, e1, e2, q⟩ | ⟨⟨h3, h4⟩, q⟩
    · subst e1
      subst e2
      have z1 := rp_int (F := fF R F2 fr) s
      have z2 := rp_int r2
      subst z1
      subst z2
      refine .inl ⟨rfl, ?_⟩
      rw [decV_int]
      exact eq _ F2 H2 Γ2 _ true h2 (x1.trans x2) (.bl _) q
    · obtain ⟨p1, _⟩ := Bool.and_eq_true_iff.mp h3
      obtain ⟨p2, _⟩ := Bool.and_eq_true_iff.mp h4
      exact .inr ⟨pd d, pd dy, sees_dp h2.sub s p1, Rp.dp h2.sub (r2.mono fF_ex) p2, shaped_pd h3, shaped_pd h4, eq _ F2 H2 Γ2 _ true h2 (x1.trans x2) (.bl _) q⟩
theorem ok_neV {ta tb : TE} (ka : SV X E ta va) (kb : SE X E tb wb) : SE X E (tOp (fun x y H Q => rNe x y H Q ∨ rNeD X.K x y H Q) ta tb) (wCmpV kNe va wb) := by
  intro R F H σ Γ ex Q Qt g h eq w
  refine ka R F H σ Γ ex _ _ g h (fun x F1 H1 Γ1 vw h1 x1 r1 w1 => kb R F1 H1 σ Γ1 ex _ _ g h1 (fun y F2 H2 Γ2 dy fy h2 x2 r2 w2 => ?_) w1) w
  cases l : lkV Γ2 vw with
  | none => simp only [l] at w2
  | some q =>
    obtain ⟨d, fr⟩ := q
    simp only [l] at w2
    have s := vw_sees h2 (r1.mono x2.ex) l
    rcases kNe_cases w2 with ⟨i, j, e1, e2, q⟩ | ⟨⟨h3, h4⟩, q⟩
    · subst e1
      subst e2
      have z1 := rp_int (F := fF R F2 fr) s
      have z2 := rp_int r2
      subst z1
      subst z2
      refine .inl ⟨rfl, ?_⟩
      rw [decV_int]
      exact eq _ F2 H2 Γ2 _ true h2 (x1.trans x2) (.bl _) q
    · obtain ⟨p1, _⟩ := Bool.and_eq_true_iff.mp h3
      obtain ⟨p2, _⟩ := Bool.and_eq_true_iff.mp h4
      exact .inr ⟨pd d, pd dy, sees_dp h2.sub s p1, Rp.dp h2.sub (r2.mono fF_ex) p2, shaped_pd h3, shaped_pd h4, eq _ F2 H2 Γ2 _ true h2 (x1.trans x2) (.bl _) q⟩
theorem pw_eqV (hu : X.A.units + 64 < cLine) (ha : PWV X E a va) (hb : PWE X E b wb) : PWE X E (.Compare a [.Eq] [b] pos) (wCmpV kEq va wb) := by
  obtain ⟨ta, pa, ka⟩ := ha
  obtain ⟨tb, pb, kb⟩ := hb
  exact ⟨_, pe_cmpR (op_eq.or (op_eqD hu)) pa pb (nomark _), ok_eqV ka kb⟩
theorem pwt_eqV (hu : X.A.units + 64 < cLine) (ha : PWV X E a va) (hb : PWE X E b wb) : PWT X E (.Compare a [.Eq] [b] pos) (wTst (wCmpV kEq va wb)) := by
  obtain ⟨ta, pa, ka⟩ := ha
  obtain ⟨tb, pb, kb⟩ := hb
  exact ⟨_, pt_cmpR (op_eq.or (op_eqD hu)) pa pb (nomark _), fun R F H σ Γ ex Q Qt g h eq w => ok_tst (ok_eqV ka kb) g h eq w⟩
theorem pw_neV (hu : X.A.units + 64 < cLine) (ha : PWV X E a va) (hb : PWE X E b wb) : PWE X E (.Compare a [.NotEq] [b] pos) (wCmpV kNe va wb) := by
  obtain ⟨ta, pa, ka⟩ := ha
  obtain ⟨tb, pb, kb⟩ := hb
  exact ⟨_, pe_cmpR (op_ne.or (op_neD hu)) pa pb (nomark _), ok_neV ka kb⟩
theorem pwt_neV (hu : X.A.units + 64 < cLine) (ha : PWV X E a va) (hb : PWE X E b wb) : PWT X E (.Compare a [.NotEq] [b] pos) (wTst (wCmpV kNe va wb)) := by
  obtain ⟨ta, pa, ka⟩ := ha
  obtain ⟨tb, pb, kb⟩ := hb
  exact ⟨_, pt_cmpR (op_ne.or (op_neD hu)) pa pb (nomark _), fun R F H σ Γ ex Q Qt g h eq w => ok_tst (ok_neV ka kb) g h eq w⟩

/-! ### built-in calls of one thing that is looked into -/
abbrev K1 := D → Bool → (D → Bool → Prop) → Prop
def OC1 (X : Cx) (r : List V → Hp → VK → Prop) (k : K1) : Prop := ∀ (R : Rl) (F H : Hp) (σ : L2.St) (Γ : En) v d fr Q Qt, R.K = X.K → Hd R F H σ Γ → Sees R F H v d fr → KQ R F H σ Γ Q Qt → k d fr Q → r [v] H Qt
@[reducible] def wC1 (k : K1) (va : WV) : WE := fun ex Γ Q => va ex Γ fun vw Γ1 => match lkV Γ1 vw with
  | some (d, fr) => k d fr fun z fz => Q z fz Γ1
  | none => False
theorem ok_c1 {r : List V → Hp → VK → Prop} {k : K1} (hk : OC1 X r k) {ta : TE} (ka : SV X E ta va) : SE X E (tCB r (tCons ta tNil)) (wC1 k va) := by
  intro R F H σ Γ ex Q Qt g h eq w
  refine ka R F H σ Γ ex _ _ g h (fun x F1 H1 Γ1 vw h1 x1 r1 w1 => ?_) w
  cases l : lkV Γ1 vw with
  | none => simp only [l] at w1
  | some q =>
    obtain ⟨d, fr⟩ := q
    simp only [l] at w1
    exact hk R F1 H1 σ Γ1 x d fr _ Qt g.K h1 (vw_sees h1 r1 l) (fun v F2 H2 d fr h2 x2 r2 q => eq v F2 H2 Γ1 d fr h2 (x1.trans x2) r2 q) w1
theorem pw_b1 {id : String} {r : List V → Hp → VK → Prop} {k : K1} (o : CallR X (.builtin id) r ∧ OC1 X r k) (hm : X.mg x = none) (hv : bootBuiltins x = some (.builtin id)) (ha : PWV X E a va) (hg : Gl X x := by rfl) (hn : x ≠ "__name__" := by decide) (hdb : (x == ("__debug__" : Str)) = false := by decide)
    (he : starEach (a :: []) X.env = (false, eval a X.env) :: starEach [] X.env := by rfl) (hpl : (backTo pos (starEach [] X.env)).any (·.1) = false := by rfl) : PWE X E (.Call (.Name x p) [a] [] pos) (wC1 k va) := by
  obtain ⟨ta, pa, ka⟩ := ha
  exact ⟨_, pe_callB o.1 hg hm hv (pa_cons pa pa_nil he) hn hdb he hpl, ok_c1 o.2 ka⟩
theorem pw_t1 {T : String} {r : List V → Hp → VK → Prop} {k : K1} (o : CallR X (.type T) r ∧ OC1 X r k) (hm : X.mg x = none) (hv : bootBuiltins x = some (.type T)) (ha : PWV X E a va) (hg : Gl X x := by rfl) (hn : x ≠ "__name__" := by decide) (hdb : (x == ("__debug__" : Str)) = false := by decide)
    (he : starEach (a :: []) X.env = (false, eval a X.env) :: starEach [] X.env := by rfl) (hpl : (backTo pos (starEach [] X.env)).any (·.1) = false := by rfl) : PWE X E (.Call (.Name x p) [a] [] pos) (wC1 k va) := by
  obtain ⟨ta, pa, ka⟩ := ha
  exact ⟨_, pe_callTy o.1 hg hm hv (pa_cons pa pa_nil he) hn hdb he hpl, ok_c1 o.2 ka⟩
/-- len -/
@[reducible] def kLen : K1 := fun d _ Q => match d with
  | .lst ds => Q (.int ds.length) true
  | .tup ds => Q (.int ds.length) true
  | .dk ds => Q (.int ds.length) true
  | _ => False
theorem rpK_length {F : Hp} : ∀ {vs : List (Key × V)} {ds : List (Key × D)}, RpK F vs ds → vs.length = ds.length
  | _, _, .nil => rfl
  | _, _, .cons _ r => congrArg (· + 1) (rpK_length r)
def rLenAll (K : PySem.W.Frag) : List V → Hp → VK → Prop := fun xs H Q => (∃ p ys, xs = [.ref p] ∧ (SqL K H p ys ∨ SqT K H p ys) ∧ Q (.int ys.length) H) ∨ ∃ a kvs, xs = [V.ref a] ∧ Rd H a (.dK kvs) ∧ Q (.int kvs.length) H
theorem call_lenAll : CallR X (.builtin "len") (rLenAll X.K) := by
  refine CallR.or call_len_seq ?_
  intro pins s σ H xs us Q I r h
  obtain ⟨a, kvs, rfl, e, q⟩ := h
  obtain ⟨u, rfl, ru⟩ := vals1 r
  obtain rfl : u = Value.ref a := ru
  exact d_len I e fun t s' I' => ⟨.int kvs.length, H, I', ⟨t, rfl⟩, q⟩
theorem o_len : CallR X (.builtin "len") (rLenAll X.K) ∧ OC1 X (rLenAll X.K) kLen := by
  refine ⟨call_lenAll, ?_⟩
  intro R F H σ Γ v d fr Q Qt hK h s eq k
  cases d with
  | lst ds =>
    obtain ⟨p, vs, e1, e2, r⟩ := s
    subst e1
    exact .inl ⟨p, vs, rfl, .inl (.inl (.inl e2)), eq _ F H _ true h Nx.refl (by rw [r.length]; exact .int _) k⟩
  | tup ds =>
    obtain ⟨p, vs, e1, e2, r⟩ := s
    subst e1
    exact .inl ⟨p, vs, rfl, .inr (.inl (.inl e2)), eq _ F H _ true h Nx.refl (by rw [r.length]; exact .int _) k⟩
  | dk ds =>
    obtain ⟨p, vs, e1, e2, r⟩ := s
    subst e1
    exact .inr ⟨p, vs, rfl, e2.rd, eq _ F H _ true h Nx.refl (by rw [rpK_length r]; exact .int _) k⟩
  | _ => exact k.elim
/-- min, max of a list of whole numbers -/
@[reducible] def kMin : K1 := fun d _ Q => ∃ ns : List Int, d = .lst (ns.map .int) ∧ 0 < ns.length ∧ ∀ m, m ∈ ns → (∀ y, y ∈ ns → m ≤ y) → Q (.int m) true
@[reducible] def kMax : K1 := fun d _ Q => ∃ ns : List Int, d = .lst (ns.map .int) ∧ 0 < ns.length ∧ ∀ m, m ∈ ns → (∀ y, y ∈ ns → y ≤ m) → Q (.int m) true
theorem o_min (hc : X.calm = true) : CallR X (.builtin "min") (rMin X.K) ∧ OC1 X (rMin X.K) kMin := by
  refine ⟨cr_min hc, ?_⟩
  intro R F H σ Γ v d fr Q Qt hK h s eq k
  obtain ⟨ns, e, hl, q⟩ := k
  subst e
  obtain ⟨p, vs, e1, e2, r⟩ := s
  subst e1
  have e5 := r.of_ints
  subst e5
  exact ⟨p, ns, rfl, .inl (.inl e2), hl, fun m h1 h2 => eq _ F H _ true h Nx.refl (.int m) (q m h1 h2)⟩
theorem o_max (hc : X.calm = true) : CallR X (.builtin "max") (rMax X.K) ∧ OC1 X (rMax X.K) kMax := by
  refine ⟨cr_max hc, ?_⟩
  intro R F H σ Γ v d fr Q Qt hK h s eq k
  obtain ⟨ns, e, hl, q⟩ := k
  subst e
  obtain ⟨p, vs, e1, e2, r⟩ := s
  subst e1
  have e5 := r.of_ints
  subst e5
  exact ⟨p, ns, rfl, .inl (.inl e2), hl, fun m h1 h2 => eq _ F H _ true h Nx.refl (.int m) (q m h1 h2)⟩
@[reducible] def kSum : K1 := fun d _ Q => ∃ ns : List Int, d = .lst (ns.map .int) ∧ Q (.int ns.sum) true
theorem o_sum (hc : X.calm = true) : CallR X (.builtin "sum") (rSum X.K) ∧ OC1 X (rSum X.K) kSum := by
  refine ⟨cr_sum hc, ?_⟩
  intro R F H σ Γ v d fr Q Qt hK h s eq k
  obtain ⟨ns, e, q⟩ := k
  subst e
  obtain ⟨p, vs, e1, e2, r⟩ := s
  subst e1
  have e5 := r.of_ints
  subst e5
  exact ⟨p, ns, rfl, .inl (.inl e2), eq _ F H _ true h Nx.refl (.int _) q⟩
@[reducible] def kAll : K1 := fun d _ Q => ∃ ns : List Bool, d = .lst (ns.map .bl) ∧ Q (.bl (ns.all id)) true
@[reducible] def kAny : K1 := fun d _ Q => ∃ ns : List Bool, d = .lst (ns.map .bl) ∧ Q (.bl (ns.any id)) true
theorem o_all (hc : X.calm = true) : CallR X (.builtin "all") (rAll X.K) ∧ OC1 X (rAll X.K) kAll := by
  refine ⟨cr_all hc, ?_⟩
  intro R F H σ Γ v d fr Q Qt hK h s eq k
  obtain ⟨ns, e, q⟩ := k
  subst e
  obtain ⟨p, vs, e1, e2, r⟩ := s
  subst e1
  have e5 := r.of_bls
  subst e5
  exact ⟨p, ns, rfl, .inl (.inl e2), eq _ F H _ true h Nx.refl (.bl _) q⟩
theorem o_any (hc : X.calm = true) : CallR X (.builtin "any") (rAny X.K) ∧ OC1 X (rAny X.K) kAny := by
  refine ⟨cr_any hc, ?_⟩
  intro R F H σ Γ v d fr Q Qt hK h s eq k
  obtain ⟨ns, e, q⟩ := k
  subst e
  obtain ⟨p, vs, e1, e2, r⟩ := s
  subst e1
  have e5 := r.of_bls
  subst e5
  exact ⟨p, ns, rfl, .inl (.inl e2), eq _ F H _ true h Nx.refl (.bl _) q⟩
/-- int of a number, of a truth value -/
@[reducible] def kInt : K1 := fun d _ Q => match d with
  | .int i => Q (.int i) true
  | .bl b => Q (.int (if b then 1 else 0)) true
  | _ => False
theorem o_int : CallR X (.type "int") (fun xs H Q => (∃ i, xs = [.int i] ∧ Q (.int i) H) ∨ ∃ k, xs = [.bl k] ∧ Q (.int (if k then 1 else 0)) H) ∧ OC1 X (fun xs H Q => (∃ i, xs = [.int i] ∧ Q (.int i) H) ∨ ∃ k, xs = [.bl k] ∧ Q (.int (if k then 1 else 0)) H) kInt := by
  refine ⟨call_int1, ?_⟩
  intro R F H σ Γ v d fr Q Qt hK h s eq k
  cases d with
  | int i =>
    have e := rp_int (F := fF R F fr) s
    subst e
    exact .inl ⟨i, rfl, eq _ F H _ true h Nx.refl (.int _) k⟩
  | bl i =>
    have e := rp_bl (F := fF R F fr) s
    subst e
    exact .inr ⟨i, rfl, eq _ F H _ true h Nx.refl (.int _) k⟩
  | _ => exact k.elim
/-- list of a list, of a tuple: a new one -/
@[reducible] def kList : K1 := fun d fr Q => match d with
  | .lst ds => Q (.lst ds) fr
  | .tup ds => Q (.lst ds) fr
  | _ => False
def rListAll (K : PySem.W.Frag) : List V → Hp → VK → Prop := fun xs H Q => ∃ p ys, xs = [.ref p] ∧ (SqL K H p ys ∨ SqT K H p ys) ∧ ∀ l, H l = none → Q (.ref l) (upd H l (.lst ys))
theorem o_list : CallR X (.type "list") (rListAll X.K) ∧ OC1 X (rListAll X.K) kList := by
  refine ⟨call_list_of, ?_⟩
  intro R F H σ Γ v d fr Q Qt hK h s eq k
  cases d with
  | lst ds =>
    obtain ⟨p, vs, e1, e2, r⟩ := s
    subst e1
    refine ⟨p, vs, rfl, .inl (.inl (.inl e2)), fun l hl => ?_⟩
    obtain ⟨h2, x2, at_⟩ := h.newF (o := .lst vs) hl
    exact eq _ _ _ _ fr h2 x2 (.lst (at_ _) (r.mono (fF_mono x2.ex))) k
  | tup ds =>
    obtain ⟨p, vs, e1, e2, r⟩ := s
    subst e1
    refine ⟨p, vs, rfl, .inr (.inl (.inl e2)), fun l hl => ?_⟩
    obtain ⟨h2, x2, at_⟩ := h.newF (o := .lst vs) hl
    exact eq _ _ _ _ fr h2 x2 (.lst (at_ _) (r.mono (fF_mono x2.ex))) k
  | _ => exact k.elim
/-- tuple of a list: a new one -/
@[reducible] def kTuple : K1 := fun d fr Q => match d with
  | .lst ds => Q (.tup ds) fr
  | _ => False
def rTupleAll (K : PySem.W.Frag) : List V → Hp → VK → Prop := fun xs H Q => ∃ p ys, xs = [.ref p] ∧ ((SqL K H p ys ∧ ∀ l, H l = none → Q (.ref l) (upd H l (.tup ys))) ∨ (SqT K H p ys ∧ Q (.ref p) H))
theorem o_tuple : CallR X (.type "tuple") (rTupleAll X.K) ∧ OC1 X (rTupleAll X.K) kTuple := by
  refine ⟨call_tuple_of, ?_⟩
  intro R F H σ Γ v d fr Q Qt hK h s eq k
  cases d with
  | lst ds =>
    obtain ⟨p, vs, e1, e2, r⟩ := s
    subst e1
    refine ⟨p, vs, rfl, .inl ⟨.inl (.inl e2), fun l hl => ?_⟩⟩
    obtain ⟨h2, x2, at_⟩ := h.newF (o := .tup vs) hl
    exact eq _ _ _ _ fr h2 x2 (.tup (at_ _) (r.mono (fF_mono x2.ex))) k
  | _ => exact k.elim
/-! ### isinstance against a built-in class -/
@[reducible] def tyD : D → Option String
  | .non => some "NoneType"
  | .bl _ => some "bool"
  | .int _ => some "int"
  | .str _ => some "str"
  | .lst _ => some "list"
  | .tup _ => some "tuple"
  | .dk _ => some "dict"
  | .dt _ => none
  | .opq _ => none
def isiT (t c : String) : Bool := t == c || (t == "bool" && c == "int")
@[reducible] def wIsi (c : String) (va : WV) : WE := fun ex Γ Q => va ex Γ fun vw Γ1 => match lkV Γ1 vw with
  | some (d, _) => (match tyD d with
    | some t => Q (.bl (isiT t c)) true Γ1
    | none => False)
  | none => False
theorem sees_ty {R : Rl} {F H : Hp} {K : PySem.W.Frag} {v : V} {d : D} {fr : Bool} {t : String} (s : Sees R F H v d fr) (h : tyD d = some t) : TyX K H v (.type t) := by
  cases d with
  | non => cases h; cases (rp_non (F := fF R F fr) s); exact .base .non
  | bl b => cases h; cases (rp_bl (F := fF R F fr) s); exact .base (.bl _)
  | int b => cases h; cases (rp_int (F := fF R F fr) s); exact .base (.int _)
  | str b => cases h; cases (rp_str (F := fF R F fr) s); exact .base (.str _)
  | lst ds =>
    cases h
    obtain ⟨p, vs, e1, e2, r⟩ := s
    subst e1
    exact .base (.lst e2)
  | tup ds =>
    cases h
    obtain ⟨p, vs, e1, e2, r⟩ := s
    subst e1
    exact .base (.tup e2)
  | dk ds =>
    cases h
    obtain ⟨p, vs, e1, e2, r⟩ := s
    subst e1
    rcases e2 with e2 | ⟨_, o, e2⟩
    · exact .base (.dK e2)
    · exact .fDict e2
  | dt ds => cases h
  | opq _ => cases h
def KitAll (c : String) : Prop := ∀ (d : D) (t : String), tyD d = some t → kitB t c = some (isiT t c)
theorem kit_all {c : String} (h1 : kitB "NoneType" c = some (isiT "NoneType" c)) (h2 : kitB "bool" c = some (isiT "bool" c)) (h3 : kitB "int" c = some (isiT "int" c)) (h4 : kitB "str" c = some (isiT "str" c))
    (h5 : kitB "list" c = some (isiT "list" c)) (h6 : kitB "tuple" c = some (isiT "tuple" c)) (h7 : kitB "dict" c = some (isiT "dict" c)) : KitAll c := fun d t h => by
  cases d <;> first | (cases h; assumption) | cases h
theorem kit_int : KitAll "int" := kit_all (by decide +kernel) (by decide +kernel) (by decide +kernel) (by decide +kernel) (by decide +kernel) (by decide +kernel) (by decide +kernel)
theorem kit_bool : KitAll "bool" := kit_all (by decide +kernel) (by decide +kernel) (by decide +kernel) (by decide +kernel) (by decide +kernel) (by decide +kernel) (by decide +kernel)
theorem kit_list : KitAll "list" := kit_all (by decide +kernel) (by decide +kernel) (by decide +kernel) (by decide +kernel) (by decide +kernel) (by decide +kernel) (by decide +kernel)
theorem pw_isi {T : String} {y : Str} {py : Pos} (kt : KitAll T) (hm : X.mg "isinstance" = none) (hy : X.mg y = none) (hv : bootBuiltins "isinstance" = some (.builtin "isinstance")) (hvy : bootBuiltins y = some (.type T)) (ha : PWV X E a va)
    (hg : Gl X "isinstance" := by rfl) (hgy : Gl X y := by rfl) (hny : y ≠ "__name__" := by decide) (hdy : (y == ("__debug__" : Str)) = false := by decide)
    (he : starEach (a :: [.Name y py]) X.env = (false, eval a X.env) :: starEach [.Name y py] X.env := by rfl) (he2 : starEach ((.Name y py) :: []) X.env = (false, eval (.Name y py) X.env) :: starEach [] X.env := by rfl) (hpl : (backTo pos (starEach [.Name y py] X.env)).any (·.1) = false := by rfl) :
    PWE X E (.Call (.Name "isinstance" p) [a, .Name y py] [] pos) (wIsi T va) := by
  obtain ⟨ta, pa, ka⟩ := ha
  refine ⟨_, pe_callB call_isi hg hm hv (pa_cons pa (pa_cons (pe_bltn (v := .ty T) hgy hy hvy rfl hny hdy) pa_nil he2) he) (by decide) (by decide) he hpl, fun R F H σ Γ ex Q Qt g h eq w => ?_⟩
  refine ka R F H σ Γ ex _ _ g h (fun x F1 H1 Γ1 vw h1 x1 r1 w1 => ?_) w
  cases l : lkV Γ1 vw with
  | none => simp only [l] at w1
  | some q =>
    obtain ⟨d, fr⟩ := q
    simp only [l] at w1
    cases t : tyD d with
    | none => simp only [t] at w1
    | some tt =>
      simp only [t] at w1
      exact ⟨x, .ty T, .type tt, .type T, isiT tt T, rfl, .ty T, sees_ty (vw_sees h1 r1 l) t, kit_ty (kt d tt t), eq _ F1 H1 Γ1 _ true h1 x1 (.bl _) w1⟩

/-! ### calls of the text's own defs -/
/-- what a call asks and gives, by data: the arguments, what is wanted of the value, of an exception -/
abbrev FS := List D → (D → Bool → Prop) → EX → Prop
/-- .. as a promise over the heap -/
def spF (mg : Str → Option Value) (fs : FS) : Sp := fun vs H Qv Ev => ∃ (F : Hp) (ds : List D) (Q : D → Bool → Prop) (ex : EX), (∀ a u, F a = some u → RdD H a u) ∧ RpAll F vs ds ∧ fs ds Q ex ∧
  (∀ v F' H' d fr, Ex H H' → Ex F F' → (∀ a u, F' a = some u → RdD H' a u) → (∀ a u, F' a = some u → F a = some u ∨ H a = none) → Rp (match fr with | true => nw H F' | false => F') v d → Q d fr → Qv v H') ∧
  ∀ (c : Str) (C dd : Addr) (v : V) (d : D) (F' H' : Hp), mg c = some (.ref C) → ex c d → Ex H H' → Ex F F' → (∀ a u, F' a = some u → RdD H' a u) → Rp F' v d → H' dd = some (.xd [(fieldOf c, v)]) → Ev (.ref C) (some dd) H'
@[reducible] def wCall (fs : FS) (wr : WA) : WE := fun ex Γ Q => wr ex Γ fun ds Γ1 => fs (ds.map (·.1)) (fun d fr => Q d fr Γ1) ex
theorem RpL.plain {R : Rl} {F : Hp} : ∀ {vs : List V} {ds : List (D × Bool)}, RpL R F vs ds → RpAll F vs (ds.map (·.1))
  | _, _, .nil => .nil
  | _, _, .cons h r => .cons (h.mono fF_ex) r.plain
/-- behind a call that adds things -/
theorem Hd.called {R : Rl} {F F' H H' : Hp} {σ : L2.St} {Γ : En} (h : Hd R F H σ Γ) (xH : Ex H H') (xF : Ex F F') (sub : ∀ a u, F' a = some u → RdD H' a u) (new : ∀ a u, F' a = some u → F a = some u ∨ H a = none) {v : V} {d : D} {fr : Bool}
    (r : Rp (match fr with | true => nw H F' | false => F') v d) : Hd R F' H' σ Γ ∧ Rpf R F' fr v d := by
  refine ⟨h.grow xH xF sub new, ?_⟩
  cases fr with
  | false => exact r
  | true =>
    refine Rp.mono (fun a o e => ?_) r
    have r2 : H a = none := by
      cases q : H a with
      | none => rfl
      | some u =>
        have z : nw H F' a = some o := e
        unfold nw at z
        rw [q] at z
        cases z
    have e2 : F' a = some o := nw_ex _ _ e
    rcases h.h0 r2 with q | q
    · show nw R.H0 F' a = some o
      rw [nw_at q]
      exact e2
    · exact absurd r2 (h.iof a q).2.2
theorem ok_call {fs : FS} {wr : WA} {t : TA} (kt : SA X E t wr) : SE X E (tCall (spF X.mg fs) [] E t) (wCall fs wr) := by
  intro R F H σ Γ ex Q Qt g h eq w
  refine kt R F H σ Γ ex _ _ g h (fun vs F1 H1 Γ1 ds h1 x1 r1 w1 => ?_) w
  show spF X.mg fs (vs ++ []) H1 Qt E
  rw [List.append_nil]
  refine ⟨F1, ds.map (·.1), _, ex, h1.sub, r1.plain, w1, fun v F2 H2 d fr xH xF sub new r q => ?_, fun c C dd v d F2 H2 hm hex xH xF sub r hd => ?_⟩
  · obtain ⟨h2, r2⟩ := h1.called xH xF sub new r
    exact eq v F2 H2 Γ1 d fr h2 (x1.trans (.grow xF xH new)) r2 q
  · exact g.lk c C dd v d F2 H2 hm hex (fun a o e n => xH a o (h1.base a o e n)) (fun a o e => xF a o (h1.f0 a o e)) sub r hd
theorem pw_call {k : Nat} {f : Addr} {fd : FuncData} {ps : List Str} {fs : FS} {wr : WA} (Fn : FnG X.prog X.w X.K X.mg X.base k f fd ps (spF X.mg fs)) (hgd : X.A.guards = some []) (hr : Room k X.A) (hm : X.mg x = some (.ref f)) (hk : PySem.W.keepIn X.K (.ref f) = true) (hb : Binds X.K fd ps [])
    (hx : Passes (L2.CX X.prog X.w) X E) (ha : PWA X E (e :: es) wr) (hg : Gl X x := by rfl) (hdb : (x == ("__debug__" : Str)) = false := by decide) (he : starEach (e :: es) X.env = (false, eval e X.env) :: starEach es X.env := by rfl) (hpl : (backTo pos (starEach es X.env)).any (·.1) = false := by rfl) :
    PWE X E (.Call (.Name x p) (e :: es) [] pos) (wCall fs wr) := by
  obtain ⟨t, pt, kt⟩ := ha
  exact ⟨_, pe_fnG Fn hgd hr hm hk hb hx pt hg hdb he hpl, ok_call kt⟩
end
end Y

/-! Y: part 7: targets, statements. -/
namespace Y
open PySem L2

/-- what is wanted behind a statement, by data -/
structure DE where
  nx : En → Prop
  rt : D → Bool → En → Prop
  bk : En → Prop := fun _ => False
  ct : En → Prop := fun _ => False
  xe : EX := fun _ _ => False
abbrev WS := DE → En → Prop
structure Sim (R : Rl) (F : Hp) (P : DE) (T : Ends) : Prop where
  nx : ∀ F' H' σ' Γ', Hd R F' H' σ' Γ' → Ex F F' → P.nx Γ' → T.nx σ' H'
  rt : ∀ v F' H' σ' Γ' d fr, Hd R F' H' σ' Γ' → Ex F F' → Rpf R F' fr v d → P.rt d fr Γ' → T.rt v H'
  bk : ∀ F' H' σ' Γ', Hd R F' H' σ' Γ' → Ex F F' → P.bk Γ' → T.bk σ' H'
  ct : ∀ F' H' σ' Γ', Hd R F' H' σ' Γ' → Ex F F' → P.ct Γ' → T.ct σ' H'
theorem Sim.mono {R : Rl} {F F' : Hp} {P : DE} {T : Ends} (s : Sim R F P T) (x : Ex F F') : Sim R F' P T :=
  ⟨fun G H' σ' Γ' h y => s.nx G H' σ' Γ' h (x.trans y), fun v G H' σ' Γ' d fr h y => s.rt v G H' σ' Γ' d fr h (x.trans y), fun G H' σ' Γ' h y => s.bk G H' σ' Γ' h (x.trans y), fun G H' σ' Γ' h y => s.ct G H' σ' Γ' h (x.trans y)⟩
theorem Sim.seq {R : Rl} {F : Hp} {P : DE} {T : Ends} (s : Sim R F P T) {n : En → Prop} {m : L2.St → Hp → Prop} (h : ∀ F' H' σ' Γ', Hd R F' H' σ' Γ' → Ex F F' → n Γ' → m σ' H') : Sim R F { P with nx := n } { T with nx := m } :=
  ⟨h, s.rt, s.bk, s.ct⟩
def SS (X : Cx) (E : XK) (ts : TS) (w : WS) : Prop := ∀ (R : Rl) (F H : Hp) (σ : L2.St) (Γ : En) (P : DE) (T : Ends), Go X R E P.xe → Hd R F H σ Γ → Sim R F P T → w P Γ → ts T σ H
def PWS (X : Cx) (E : XK) (s : Stmt) (w : WS) : Prop := ∃ ts : TS, PS X s ts ∧ SS X E ts w
def PWSs (X : Cx) (E : XK) (s : List Stmt) (w : WS) : Prop := ∃ ts : TS, PSs X s ts ∧ SS X E ts w

section
variable {R : Rl} {F H : Hp} {σ : L2.St} {Γ : En}
theorem st_over : ∀ {Γ : En} {i : Nat} {s : Option Sl}, Γ.length ≤ i → st Γ i s = Γ
  | [], _, _, _ => rfl
  | _ :: _, 0, _, h => absurd h (by simp)
  | a :: r, i + 1, s, h => by
    show a :: st r i s = a :: r
    rw [st_over (Γ := r) (i := i) (s := s) (by simpa using h)]
theorem Hd.put (h : Hd R F H σ Γ) {i : Nat} {v : V} {s : Sl} (ok : SlOk R F H v s) (hs : owny s = false) : Hd R F H (σ.set i (some v)) (st Γ i (some s)) := by
  by_cases hi : i < Γ.length
  · exact h.set ok hs hi
  · rw [st_over (by omega), List.set_eq_of_length_le (by rw [← h.len]; omega)]
    exact h
theorem Hd.putOwn (h : Hd R F H σ Γ) {i : Nat} {p : Addr} {o : D} {fr : Bool} (ok : SlOk R F H (.ref p) (.own o fr)) (hp : ¬ Ow σ Γ p) : Hd R F H (σ.set i (some (.ref p))) (st Γ i (some (.own o fr))) := by
  by_cases hi : i < Γ.length
  · exact h.setOwn ok (fun j t e o q => hp ⟨j, t, e, o, q⟩) hi
  · rw [st_over (by omega), List.set_eq_of_length_le (by rw [← h.len]; omega)]
    exact h
end

/-! ### targets -/
abbrev WG := D → Bool → En → (En → Prop) → Prop
abbrev WGs := List D → Bool → En → (En → Prop) → Prop
/-- what a store leaves: the slots at sl may be others, no new thing of one's own -/
structure Stored (sl : List Nat) (σ : L2.St) (Γ : En) (σ' : L2.St) (Γ' : En) : Prop where
  len : σ'.length = σ.length
  out : ∀ j, j ∉ sl → σ'[j]? = σ[j]?
  ow : ∀ a, Ow σ' Γ' a → Ow σ Γ a
theorem Stored.trans {sl sl' : List Nat} {σ σ1 σ2 : L2.St} {Γ Γ1 Γ2 : En} (a : Stored sl σ Γ σ1 Γ1) (b : Stored sl' σ1 Γ1 σ2 Γ2) : Stored (sl ++ sl') σ Γ σ2 Γ2 :=
  ⟨b.len.trans a.len, fun j hj => by
    rw [List.mem_append, not_or] at hj
    rw [b.out j hj.2, a.out j hj.1], fun x z => a.ow x (b.ow x z)⟩
def SG (X : Cx) (sl : List Nat) (g : TG) (w : WG) : Prop := ∀ (R : Rl) (F H : Hp) (σ : L2.St) (Γ : En) v d fr Q (Qt : L2.St → Hp → Prop), R.K = X.K → Hd R F H σ Γ → Rpf R F fr v d →
  (∀ σ' Γ', Hd R F H σ' Γ' → Stored sl σ Γ σ' Γ' → Q Γ' → Qt σ' H) → w d fr Γ Q → g v σ H Qt
def SGs (X : Cx) (sl : List Nat) (g : TGs) (w : WGs) : Prop := ∀ (R : Rl) (F H : Hp) (σ : L2.St) (Γ : En) vs ds fr Q (Qt : L2.St → Hp → Prop), R.K = X.K → Hd R F H σ Γ → RpAll (fF R F fr) vs ds →
  (∀ σ' Γ', Hd R F H σ' Γ' → Stored sl σ Γ σ' Γ' → Q Γ' → Qt σ' H) → w ds fr Γ Q → g vs σ H Qt
def PWG (X : Cx) (sl : List Nat) (tg : Expr) (w : WG) : Prop := ∃ g, PG X tg g ∧ SG X sl g w
def PWGs (X : Cx) (sl : List Nat) (tg : List Expr) (w : WGs) : Prop := ∃ g, PGs X tg g ∧ SGs X sl g w
section
variable {X : Cx} {E : XK} {e a b c : Expr} {es : List Expr} {pos p : Pos} {x : Str} {wa wb wc : WE} {va vb : WV}
@[reducible] def wName (i : Nat) : WG := fun d fr Γ Q => Q (st Γ i (some (.dat d fr)))
theorem ow_put {σ : L2.St} {Γ : En} {i : Nat} {v : V} {s : Sl} (hs : owny s = false) {q : Addr} (hl : Γ.length = σ.length) (h : Ow (σ.set i (some v)) (st Γ i (some s)) q) : Ow σ Γ q := by
  obtain ⟨j, t, e1, e2, e3⟩ := h
  by_cases hj : j = i
  · subst hj
    by_cases hl : j < Γ.length
    · rw [gt_st_same hl] at e1
      cases e1
      rw [hs] at e2
      cases e2
    · have := gt_lt e1
      rw [st_length] at this
      exact absurd this hl
  · rw [gt_st_ne hj] at e1
    rw [List.getElem?_set_ne (Ne.symm hj)] at e3
    exact ⟨j, t, e1, e2, e3⟩
theorem pg_nm (i : Nat) (hN : X.N.Nodup) (hx : Loc X.env.scope x := by first | exact Or.inl rfl | exact Or.inr rfl) (hi : X.N[i]? = some x := by rfl) (hf : X.fn x = true ∨ X.env.scope.names.lookup x = some .local := by first | exact .inl rfl | exact .inr rfl | assumption) : PWG X [i] (.Name x pos) (wName i) := by
  refine ⟨gName i, pg_name hN hi hx hf, fun R F H σ Γ v d fr Q Qt hK h r k w => ?_⟩
  refine k _ _ (h.put (i := i) (s := .dat d fr) r rfl) ⟨by rw [List.length_set], fun j hj => ?_, fun a z => ow_put rfl h.len z⟩ w
  rw [List.getElem?_set_ne (fun z => hj (by simp [z]))]
@[reducible] def wgNil : WGs := fun ds _ Γ Q => match ds with
  | [] => Q Γ
  | _ => False
@[reducible] def wgCons (w : WG) (ws : WGs) : WGs := fun ds fr Γ Q => match ds with
  | d :: r => w d fr Γ fun Γ1 => ws r fr Γ1 Q
  | [] => False
theorem pwg_nil : PWGs X [] [] wgNil := by
  refine ⟨_, pgs_nil, fun R F H σ Γ vs ds fr Q Qt hK h r k w => ?_⟩
  cases r with
  | nil => exact ⟨rfl, k σ Γ h ⟨rfl, fun _ _ => rfl, fun _ z => z⟩ w⟩
  | cons _ _ => exact w.elim
theorem pwg_cons {sl sl' : List Nat} {w : WG} {ws : WGs} (h1 : PWG X sl e w) (h2 : PWGs X sl' es ws) (hs : (assignEach (e :: es) X.env).map (·.2) = assign e X.env :: (assignEach es X.env).map (·.2) := by rfl) : PWGs X (sl ++ sl') (e :: es) (wgCons w ws) := by
  obtain ⟨g, pg, kg⟩ := h1
  obtain ⟨u, pu, ku⟩ := h2
  refine ⟨_, pgs_cons pg pu hs, fun R F H σ Γ vs ds fr Q Qt hK h r k w => ?_⟩
  cases r with
  | nil => exact w.elim
  | cons a r =>
    refine ⟨_, _, rfl, kg R F H σ Γ _ _ fr _ _ hK h a (fun σ1 Γ1 h1 s1 w1 => ku R F H σ1 Γ1 _ _ fr _ _ hK h1 r (fun σ2 Γ2 h2 s2 q => k σ2 Γ2 h2 (s1.trans s2) q) w1) w⟩
/-- (a, b, ..) : a tuple or a list of that length -/
@[reducible] def wTgt (ws : WGs) : WG := fun d fr Γ Q => match d with
  | .tup ds => ws ds fr Γ Q
  | .lst ds => ws ds fr Γ Q
  | _ => False
theorem PG.or {tg : Expr} {g g' : TG} (h : PG X tg g) (h' : PG X tg g') : PG X tg (fun v σ H Q => g v σ H Q ∨ g' v σ H Q) :=
  ⟨fun pins s σ H v u Q I r q => by
    rcases q with q | q
    · exact h.run pins s σ H v u Q I r q
    · exact h'.run pins s σ H v u Q I r q⟩
theorem pg_tp {k : Nat} {sl : List Nat} {ws : WGs} {n : Nat} (hc : X.calm = true) (h : PWGs X sl es ws) (hlen : ∀ ds fr Γ Q, ws ds fr Γ Q → ds.length = n) (hn : (assignEach es X.env).length = n := by rfl) (hst : (assignEach es X.env).findIdx? (·.1) = none := by rfl) : PWG X sl (.Tuple es k pos) (wTgt ws) := by
  obtain ⟨t, pt, kt⟩ := h
  refine ⟨_, PG.or (pg_tup hc pt hn hst) (pg_unl hc pt hn hst), fun R F H σ Γ v d fr Q Qt hK h r q w => ?_⟩
  cases d with
  | tup ds =>
    have l := hlen _ _ _ _ w
    obtain ⟨p, vs, e1, e2, ra⟩ : Sees R F H v (.tup ds) fr := Sees.of h.sub r
    subst e1
    exact .inl ⟨p, vs, rfl, .inl (.inl e2), by rw [ra.length, l], kt R F H σ Γ _ _ fr _ _ hK h ra q w⟩
  | lst ds =>
    have l := hlen _ _ _ _ w
    obtain ⟨p, vs, e1, e2, ra⟩ : Sees R F H v (.lst ds) fr := Sees.of h.sub r
    subst e1
    exact .inr ⟨p, vs, rfl, .inl (.inl e2), by rw [ra.length, l], kt R F H σ Γ _ _ fr _ _ hK h ra q w⟩
  | _ => exact w.elim
theorem len_nil : ∀ ds fr Γ Q, wgNil ds fr Γ Q → ds.length = 0 := fun ds fr Γ Q w => by
  cases ds with
  | nil => rfl
  | cons _ _ => exact w.elim
theorem len_name {i : Nat} {ws : WGs} {n : Nat} (h : ∀ ds fr Γ Q, ws ds fr Γ Q → ds.length = n) : ∀ ds fr Γ Q, wgCons (wName i) ws ds fr Γ Q → ds.length = n + 1 := fun ds fr Γ Q w => by
  cases ds with
  | nil => exact w.elim
  | cons d r => exact congrArg (· + 1) (h r fr _ Q w)

/-! ### small statements -/
variable {s : Stmt} {rest : List Stmt} {wt wu : WS}
@[reducible] def wNext : WS := fun P Γ => P.nx Γ
@[reducible] def wSeq (t u : WS) : WS := fun P Γ => t { P with nx := u P } Γ
theorem pws_nil : PWSs X E [] wNext := ⟨_, pss_nil, fun R F H σ Γ P T g h s w => s.nx F H σ Γ h (Ex.refl F) w⟩
theorem pws_cons (h1 : PWS X E s wt) (h2 : PWSs X E rest wu) : PWSs X E (s :: rest) (wSeq wt wu) := by
  obtain ⟨t, pt, kt⟩ := h1
  obtain ⟨u, pu, ku⟩ := h2
  exact ⟨_, pss_cons pt pu, fun R F H σ Γ P T g h s w => kt R F H σ Γ { P with nx := wu P } { T with nx := u T } g h (s.seq fun F' H' σ' Γ' h' x q => ku R F' H' σ' Γ' P T g h' (s.mono x) q) w⟩
theorem pws_one (h1 : PWS X E s wt) : PWSs X E [s] wt := by
  obtain ⟨t, pt, kt⟩ := h1
  exact ⟨_, pss_one pt, kt⟩
theorem pws_pass : PWS X E (.Pass pos) wNext := ⟨_, ps_pass, fun R F H σ Γ P T g h s w => s.nx F H σ Γ h (Ex.refl F) w⟩
@[reducible] def wBreak : WS := fun P Γ => P.bk Γ
@[reducible] def wCont : WS := fun P Γ => P.ct Γ
theorem pws_break : PWS X E (.Break pos) wBreak := ⟨_, ps_break, fun R F H σ Γ P T g h s w => s.bk F H σ Γ h (Ex.refl F) w⟩
theorem pws_cont : PWS X E (.Continue pos) wCont := ⟨_, ps_continue, fun R F H σ Γ P T g h s w => s.ct F H σ Γ h (Ex.refl F) w⟩
@[reducible] def wNever : WS := fun _ _ => False
theorem pws_never : PWS X E s wNever := ⟨_, ps_never, fun R F H σ Γ P T g h s w => w⟩
@[reducible] def wRet (we : WE) : WS := fun P Γ => we P.xe Γ P.rt
theorem pws_ret (h : PWE X E e wa) : PWS X E (.Return (some e) pos) (wRet wa) := by
  obtain ⟨t, pt, kt⟩ := h
  exact ⟨_, ps_ret pt, fun R F H σ Γ P T g h s w => kt R F H σ Γ P.xe _ _ g h (fun v F' H' Γ' d fr h' x r q => s.rt v F' H' σ Γ' d fr h' x.ex r q) w⟩
@[reducible] def wRetN : WS := fun P Γ => P.rt .non true Γ
theorem pws_retN : PWS X E (.Return none pos) wRetN := ⟨_, ps_retN, fun R F H σ Γ P T g h s w => s.rt .non F H σ Γ .non true h (Ex.refl F) .non w⟩
@[reducible] def wDrop (we : WE) : WS := fun P Γ => we P.xe Γ fun _ _ Γ' => P.nx Γ'
theorem pws_expr (h : PWE X E e wa) (hs : swapsWith e none pos.line X.env = pure false := by rfl) : PWS X E (.Expr e pos) (wDrop wa) := by
  obtain ⟨t, pt, kt⟩ := h
  exact ⟨_, ps_expr pt hs, fun R F H σ Γ P T g h s w => kt R F H σ Γ P.xe _ _ g h (fun v F' H' Γ' d fr h' x r q => s.nx F' H' σ Γ' h' x.ex q) w⟩
@[reducible] def wIfS (c : WT) (t u : WS) : WS := fun P Γ => c P.xe Γ fun b Γ1 => ifB b (t P Γ1) (u P Γ1)
theorem pws_if {as bs : List Stmt} {wcn : WT} (hc : PWT X E c wcn) (ha : PWSs X E as wt) (hb : PWSs X E bs wu) : PWS X E (.If c as bs pos) (wIfS wcn wt wu) := by
  obtain ⟨tc, pc, kc⟩ := hc
  obtain ⟨t, pt, kt⟩ := ha
  obtain ⟨u, pu, ku⟩ := hb
  refine ⟨_, ps_if pc pt pu, fun R F H σ Γ P T g h s w => kc R F H σ Γ P.xe _ _ g h (fun b F' H' Γ' h' x q => ?_) w⟩
  cases b with
  | true =>
    rw [if_pos rfl]
    exact kt R F' H' σ Γ' P T g h' (s.mono x.ex) q
  | false =>
    rw [if_neg Bool.false_ne_true]
    exact ku R F' H' σ Γ' P T g h' (s.mono x.ex) q
/-- name = e -/
@[reducible] def wSet (i : Nat) (we : WE) : WS := fun P Γ => we P.xe Γ fun d fr Γ' => P.nx (st Γ' i (some (.dat d fr)))
theorem pws_set {py : Pos} (i : Nat) (h : PWE X E e wa) (hN : X.N.Nodup) (hs : swapsWith e (some (.Name x py)) pos.line X.env = pure false := by rfl) (hi : X.N[i]? = some x := by rfl) (hx : Loc X.env.scope x := by first | exact Or.inl rfl | exact Or.inr rfl) (hf : X.fn x = true ∨ X.env.scope.names.lookup x = some .local := by first | exact .inl rfl | exact .inr rfl | assumption) :
    PWS X E (.Assign [.Name x py] e pos) (wSet i wa) := by
  obtain ⟨t, pt, kt⟩ := h
  exact ⟨_, ps_set hN hi hx pt hs hf, fun R F H σ Γ P T g h s w => kt R F H σ Γ P.xe _ _ g h (fun v F' H' Γ' d fr h' x r q => s.nx F' H' _ _ (h'.put (i := i) (s := .dat d fr) r rfl) x.ex q) w⟩
/-- target = e -/
@[reducible] def wAsg (we : WE) (wg : WG) : WS := fun P Γ => we P.xe Γ fun d fr Γ' => wg d fr Γ' P.nx
theorem pws_asg {tg : Expr} {sl : List Nat} {wg : WG} (h : PWE X E e wa) (hg : PWG X sl tg wg) (hs : swapsWithSole [tg] e pos.line X.env = pure false := by rfl) (hw : swappedStores [tg] e X.env = pure none := by rfl)
    (h1 : (assignEach [tg] X.env).map (·.2) = [assign tg X.env] := by rfl) : PWS X E (.Assign [tg] e pos) (wAsg wa wg) := by
  obtain ⟨t, pt, kt⟩ := h
  obtain ⟨g, pg, kg⟩ := hg
  exact ⟨_, ps_asg pt pg hs hw h1, fun R F H σ Γ P T gg h s w => kt R F H σ Γ P.xe _ _ gg h (fun v F' H' Γ' d fr h' x r q => kg R F' H' σ Γ' v d fr _ _ gg.K h' r (fun σ2 Γ2 h2 _ q2 => s.nx F' H' σ2 Γ2 h2 x.ex q2) q) w⟩
end
end Y

/-! Y: part 8: things of one's own: made, changed. -/
namespace Y
open PySem L2

/-! ### expressions that make a container of one's own -/
def NQ (R : Rl) (F H : Hp) (σ : L2.St) (Γ : En) (Q : D → Bool → En → Prop) (Qt : VK) : Prop := ∀ p F' H' Γ' o fr, Hd R F' H' σ Γ' → Nx σ F H Γ F' H' Γ' → H p = none → SlOk R F' H' (.ref p) (.own o fr) → ¬ Ow σ Γ' p → Q o fr Γ' → Qt (.ref p) H'
def SN (X : Cx) (E : XK) (te : TE) (w : WE) : Prop := ∀ (R : Rl) (F H : Hp) (σ : L2.St) (Γ : En) (ex : EX) Q Qt, Go X R E ex → Hd R F H σ Γ → NQ R F H σ Γ Q Qt → w ex Γ Q → te σ H Qt
def PWN (X : Cx) (E : XK) (e : Expr) (w : WE) : Prop := ∃ te : TE, PE X e te ∧ SN X E te w
section
variable {X : Cx} {E : XK} {e a b c : Expr} {es : List Expr} {pos p : Pos} {x : Str} {wa wb wc : WE} {va vb : WV}
/-- a new tracked thing that is not frozen -/
theorem Hd.newO {R : Rl} {F H : Hp} {σ : L2.St} {Γ : En} (h : Hd R F H σ Γ) {p : Addr} {o : HO} (hp : H p = none) : Hd R F (upd H p o) σ Γ ∧ F p = none ∧ R.H0 p = none ∧ ¬ Ow σ Γ p := by
  have hF := h.fNone hp
  refine ⟨h.grow (Ex.new hp) (Ex.refl F) (fun a u e => (h.sub a u e).ex (Ex.new hp)) (fun a u e => .inl e), hF, ?_, ?_⟩
  · rcases h.h0 hp with q | q
    · exact q
    · exact absurd hp (h.iof p q).2.2
  · rintro ⟨j, t, e1, e2, e3⟩
    obtain ⟨v, e4, ok⟩ := h.sl j t e1
    rw [e3] at e4
    cases e4
    cases t with
    | own o fr =>
      obtain ⟨q, z1, _, _, t⟩ := ok
      cases z1
      obtain ⟨u, z⟩ := t.there
      rw [hp] at z; cases z
    | ino o =>
      obtain ⟨q, z1, _, t⟩ := ok
      cases z1
      obtain ⟨u, z⟩ := t.there
      rw [hp] at z; cases z
    | _ => cases e2
theorem Nx.newO {σ : L2.St} {F H F1 H1 : Hp} {Γ Γ1 : En} (x : Nx σ F H Γ F1 H1 Γ1) {p : Addr} {o : HO} (hp : H1 p = none) : Nx σ F H Γ F1 (upd H1 p o) Γ1 := x.trans (.grow (Ex.refl _) (Ex.new hp) fun a u e => .inl e)
theorem Nx.was {σ : L2.St} {F H F1 H1 : Hp} {Γ Γ1 : En} (x : Nx σ F H Γ F1 H1 Γ1) {p : Addr} (hp : H1 p = none) : H p = none := by
  cases z : H p with
  | none => rfl
  | some o => exact absurd hp (x.stay p (by rw [z]; simp))
theorem pn_lst {wr : WA} (ha : PWA X E es wr) : PWN X E (.List es pos) (wLst wr) := by
  obtain ⟨t, pt, kt⟩ := ha
  refine ⟨_, pe_lst pt, fun R F H σ Γ ex Q Qt g h eq w => kt R F H σ Γ ex _ _ g h (fun vs F1 H1 Γ1 ds h1 x1 r1 w1 => ?_) w⟩
  refine ⟨by rw [r1.length]; exact w1.1, fun p hp => ?_⟩
  obtain ⟨h2, f2, z2, n2⟩ := h1.newO (o := .lst vs) hp
  exact eq p F1 _ Γ1 (.lst _) _ h2 (x1.newO hp) (x1.was hp) ⟨p, rfl, f2, z2, vs, upd_same, r1.all⟩ n2 w1.2
@[reducible] def wDk : WE := fun _ Γ Q => Q (.dk []) true Γ
@[reducible] def wDt : WE := fun _ Γ Q => Q (.dt []) true Γ
theorem pn_dk : PWN X E (.Dict [] [] pos) wDk := ⟨_, pe_dnewK, fun R F H σ Γ ex Q Qt g h eq w p hp => by
  obtain ⟨h2, f2, z2, n2⟩ := h.newO (o := .dK []) hp
  exact eq p F _ Γ (.dk []) _ h2 (Nx.refl.newO hp) hp ⟨p, rfl, f2, z2, [], upd_same, .nil⟩ n2 w⟩
theorem pn_dt : PWN X E (.Dict [] [] pos) wDt := ⟨_, pe_dnewT, fun R F H σ Γ ex Q Qt g h eq w p hp => by
  obtain ⟨h2, f2, z2, n2⟩ := h.newO (o := .dT []) hp
  exact eq p F _ Γ (.dt []) _ h2 (Nx.refl.newO hp) hp ⟨p, rfl, f2, z2, [], upd_same, .nil⟩ n2 w⟩
/-- list of a list: a new one -/
theorem pn_list (hm : X.mg "list" = none) (ha : PWV X E a va) (hv : bootBuiltins "list" = some (.type "list")) (hg : Gl X "list" := by rfl)
    (he : starEach (a :: []) X.env = (false, eval a X.env) :: starEach [] X.env := by rfl) (hpl : (backTo pos (starEach [] X.env)).any (·.1) = false := by rfl) : PWN X E (.Call (.Name "list" p) [a] [] pos) (wC1 kList va) := by
  obtain ⟨ta, pa, ka⟩ := ha
  refine ⟨_, pe_callTy call_list_of hg hm hv (pa_cons pa pa_nil he) (by decide) (by decide) he hpl, fun R F H σ Γ ex Q Qt g h eq w => ?_⟩
  refine ka R F H σ Γ ex _ _ g h (fun v F1 H1 Γ1 vw h1 x1 r1 w1 => ?_) w
  cases l : lkV Γ1 vw with
  | none => simp only [l] at w1
  | some q =>
    obtain ⟨d, fr⟩ := q
    simp only [l] at w1
    have s := vw_sees h1 r1 l
    cases d with
    | lst ds =>
      obtain ⟨q, vs, e1, e2, r⟩ := s
      subst e1
      refine ⟨q, vs, rfl, .inl (.inl (.inl e2)), fun l hl => ?_⟩
      obtain ⟨h2, f2, z2, n2⟩ := h1.newO (o := .lst vs) hl
      exact eq l F1 _ Γ1 (.lst _) _ h2 (x1.newO hl) (x1.was hl) ⟨l, rfl, f2, z2, vs, upd_same, r⟩ n2 w1
    | tup ds =>
      obtain ⟨q, vs, e1, e2, r⟩ := s
      subst e1
      refine ⟨q, vs, rfl, .inr (.inl (.inl e2)), fun l hl => ?_⟩
      obtain ⟨h2, f2, z2, n2⟩ := h1.newO (o := .lst vs) hl
      exact eq l F1 _ Γ1 (.lst _) _ h2 (x1.newO hl) (x1.was hl) ⟨l, rfl, f2, z2, vs, upd_same, r⟩ n2 w1
    | _ => exact w1.elim
/-- [..] * n -/
@[reducible] def kRepL : K2 := fun x fx y _ Q => match x, y with
  | .lst a, .int k => (-(2 ^ 63) ≤ k ∧ k < 2 ^ 63 ∧ a.length * k.toNat ≤ sizeLine) ∧ Q (.lst (List.replicate k.toNat a).flatten) fx
  | _, _ => False
theorem pn_rep (ha : PWE X E a wa) (hb : PWE X E b wb) : PWN X E (.BinOp a .Mult b pos) (wOp kRepL wa wb) := by
  obtain ⟨ta, pa, ka⟩ := ha
  obtain ⟨tb, pb, kb⟩ := hb
  refine ⟨_, pe_op op_rep pa pb, fun R F H σ Γ ex Q Qt g h eq w => ?_⟩
  refine ka R F H σ Γ ex _ _ g h (fun u F1 H1 Γ1 dx fx h1 x1 r1 w1 => kb R F1 H1 σ Γ1 ex _ _ g h1 (fun y F2 H2 Γ2 dy fy h2 x2 r2 w2 => ?_) w1) w
  cases dx with
  | lst ds => cases dy with
    | int k =>
      obtain ⟨q, vs, e1, e2, r⟩ : Sees R F2 H2 u (.lst ds) fx := Sees.of h2.sub (r1.mono (fF_mono x2.ex))
      subst e1
      refine ⟨q, k, vs, rfl, rp_int r2, e2, w2.1.1, w2.1.2.1, by rw [r.length]; exact w2.1.2.2, fun l hl => ?_⟩
      obtain ⟨h3, f2, z2, n2⟩ := h2.newO (o := .lst (List.replicate k.toNat vs).flatten) hl
      exact eq l F2 _ Γ2 (.lst _) _ h3 ((x1.trans x2).newO hl) ((x1.trans x2).was hl) ⟨l, rfl, f2, z2, _, upd_same, rpAll_rep r _⟩ n2 w2.2
    | _ => exact w2.elim
  | _ => exact w2.elim
/-- name = a container of one's own -/
@[reducible] def wSetO (i : Nat) (we : WE) : WS := fun P Γ => we P.xe Γ fun o fr Γ' => P.nx (st Γ' i (some (.own o fr)))
theorem pws_setO {py : Pos} (i : Nat) (h : PWN X E e wa) (hN : X.N.Nodup) (hs : swapsWith e (some (.Name x py)) pos.line X.env = pure false := by rfl) (hi : X.N[i]? = some x := by rfl) (hx : Loc X.env.scope x := by first | exact Or.inl rfl | exact Or.inr rfl) (hf : X.fn x = true ∨ X.env.scope.names.lookup x = some .local := by first | exact .inl rfl | exact .inr rfl | assumption) :
    PWS X E (.Assign [.Name x py] e pos) (wSetO i wa) := by
  obtain ⟨t, pt, kt⟩ := h
  exact ⟨_, ps_set hN hi hx pt hs hf, fun R F H σ Γ P T g h s w => kt R F H σ Γ P.xe _ _ g h (fun p F' H' Γ' o fr h' x _ r n q => s.nx F' H' _ _ (h'.putOwn (i := i) r n) x.ex q) w⟩

/-! ### changes -/
/-- the thing of one's own in slot i -/
@[reducible] def ownAt (Γ : En) (i : Nat) : Option (D × Bool) := match gt Γ i with
  | some (.own o fr) => some (o, fr)
  | some (.ino o) => some (o, false)
  | _ => none
/-- .. put back changed -/
@[reducible] def ownTo (Γ : En) (i : Nat) (o : D) (fr : Bool) : En := match gt Γ i with
  | some (.own _ _) => st Γ i (some (.own o fr))
  | some (.ino _) => st Γ i (some (.ino o))
  | _ => Γ
structure OwnSt (R : Rl) (F H : Hp) (σ : L2.St) (Γ : En) (i : Nat) (o : D) (fr : Bool) (p : Addr) : Prop where
  at_ : σ[i]? = some (some (.ref p))
  top : TopH (fF R F fr) H p o
  ow : Ow σ Γ p
  fn : F p = none
  to_ : ∀ (u : HO) (o' : D) (fr' : Bool), TopH (fF R F fr') (upd H p u) p o' → Hd R F (upd H p u) σ (ownTo Γ i o' fr') ∧ ∀ a, Ow σ (ownTo Γ i o' fr') a → Ow σ Γ a
theorem own_st {R : Rl} {F H : Hp} {σ : L2.St} {Γ : En} (h : Hd R F H σ Γ) {i : Nat} {o : D} {fr : Bool} (e : ownAt Γ i = some (o, fr)) : ∃ p, OwnSt R F H σ Γ i o fr p := by
  unfold ownAt at e
  cases q : gt Γ i with
  | none => simp only [q] at e; cases e
  | some s =>
    obtain ⟨v, e1, so⟩ := h.sl i s q
    cases s with
    | own o2 f2 =>
      simp only [q] at e
      cases e
      obtain ⟨p, e3, f3, z3, t⟩ := so
      subst e3
      refine ⟨p, e1, t, ⟨i, _, q, rfl, e1⟩, f3, fun u o' fr' t' => ?_⟩
      have ee : ownTo Γ i o' fr' = st Γ i (some (.own o' fr')) := by unfold ownTo; simp only [q]
      rw [ee]
      refine ⟨h.mut q rfl e1 ⟨p, rfl, f3, z3, t'⟩ rfl f3 (.inl z3), fun a z => z.of_st fun s z1 z2 => ?_⟩
      by_cases ha : a = p
      · rw [ha]; exact .inl ⟨i, _, q, rfl, e1⟩
      · exact .inr fun z => ha (by rw [e1] at z; cases z; rfl)
    | ino o2 =>
      simp only [q] at e
      cases e
      obtain ⟨p, e3, z3, t⟩ := so
      subst e3
      have f3 := (h.iof p z3).1
      refine ⟨p, e1, t, ⟨i, _, q, rfl, e1⟩, f3, fun u o' fr' t' => ?_⟩
      have ee : ownTo Γ i o' fr' = st Γ i (some (.ino o')) := by unfold ownTo; simp only [q]
      rw [ee]
      refine ⟨h.mut q rfl e1 ⟨p, rfl, z3, t'.mono fF_ex fun _ k => k⟩ rfl f3 (.inr z3), fun a z => z.of_st fun s z1 z2 => ?_⟩
      by_cases ha : a = p
      · rw [ha]; exact .inl ⟨i, _, q, rfl, e1⟩
      · exact .inr fun z => ha (by rw [e1] at z; cases z; rfl)
    | dat _ _ => simp only [q] at e; cases e
    | raw _ => simp only [q] at e; cases e
    | scr _ => simp only [q] at e; cases e
    | old _ => simp only [q] at e; cases e
theorem OwnSt.nx {R : Rl} {F H : Hp} {σ : L2.St} {Γ : En} {i : Nat} {o : D} {fr : Bool} {p : Addr} (s : OwnSt R F H σ Γ i o fr p) {u : HO} {o' : D} {fr' : Bool} (t : TopH (fF R F fr') (upd H p u) p o') : Nx σ F H Γ F (upd H p u) (ownTo Γ i o' fr') :=
  ⟨Ex.refl F, fun a w e n => by
    rw [upd_ne (fun z => n (by rw [z]; exact s.ow))]
    exact e, (s.to_ u o' fr' t).2, fun _ _ e => .inl e, fun a h => by
    by_cases ha : a = p
    · rw [ha, upd_same]; simp
    · rw [upd_ne ha]; exact h⟩
/-- slot i holds a list of one's own -/
@[reducible] def hasL (Γ : En) (i : Nat) : Prop := match ownAt Γ i with
  | some (.lst _, _) => True
  | _ => False
/-- x.append(e) -/
@[reducible] def wApp (i : Nat) (we : WE) : WE := fun ex Γ Q => hasL Γ i ∧ we ex Γ fun d fr Γ1 => match ownAt Γ1 i with
  | some (.lst ds, f) => ds.length < sizeLine ∧ Q .non true (ownTo Γ1 i (.lst (ds ++ [d])) (f && fr))
  | _ => False
theorem hasL.get {R : Rl} {F H : Hp} {σ : L2.St} {Γ : En} {i : Nat} (hl : hasL Γ i) (h : Hd R F H σ Γ) : ∃ p vs ds f, ownAt Γ i = some (.lst ds, f) ∧ OwnSt R F H σ Γ i (.lst ds) f p ∧ H p = some (.lst vs) ∧ RpAll (fF R F f) vs ds := by
  unfold hasL at hl
  cases q : ownAt Γ i with
  | none => simp only [q] at hl
  | some z =>
    obtain ⟨d, f⟩ := z
    cases d with
    | lst ds =>
      obtain ⟨p, s⟩ := own_st h q
      obtain ⟨vs, e, r⟩ := s.top
      exact ⟨p, vs, ds, f, rfl, s, e, r⟩
    | _ => simp only [q] at hl
theorem rp_both {R : Rl} {F : Hp} {f fr : Bool} {vs : List V} {ds : List D} {v : V} {d : D} (r : RpAll (fF R F f) vs ds) (rv : Rpf R F fr v d) : RpAll (fF R F (f && fr)) vs ds ∧ Rpf R F (f && fr) v d := by
  cases f with
  | true => cases fr with
    | true => exact ⟨r, rv⟩
    | false => exact ⟨r.mono nw_ex, rv⟩
  | false => exact ⟨r, rv.mono fF_ex⟩
theorem pw_app (i : Nat) {apos : Pos} (he : PWE X E e wa) (hN : X.N[i]? = some x := by rfl) (hv : Vis X.env.scope x := by first | exact Or.inl rfl | exact Or.inr (Or.inl rfl) | exact Or.inr (Or.inr rfl)) (hd : (x == ("__debug__" : Str)) = false := by decide) (hcd : (x == ("__classdict__" : Str)) = false := by decide)
    (hbase : attributeBase (.Name x p) "append" X.env (eval (.Name x p) X.env) = eval (.Name x p) X.env := by rfl)
    (hfew : ((backTo pos (starEach (e :: []) X.env)).all (fun x => !x.1) && (backToKw pos (keywordEach [] X.env)).all (fun x => x.1.isSome) && decide ((e :: []).length + ([] : List Keyword).length + (if ([] : List Keyword).isEmpty then 0 else 1) < 30)) = true := by rfl)
    (hline : (apos.endLine == pos.line) = true := by rfl) (hs : starEach (e :: []) X.env = (false, eval e X.env) :: starEach [] X.env := by rfl) (hplain : (backTo pos (starEach [] X.env)).any (·.1) = false := by rfl) :
    PWE X E (.Call (.Attribute (.Name x p) "append" apos) [e] [] pos) (wApp i wa) := by
  obtain ⟨t, pt, kt⟩ := he
  refine ⟨_, pe_bm PySem.F.plainAttrs_list PySem.F.slot_list_append PySem.F.type_list_append mt_append (pe_var hN hv hd hcd) (pa_cons pt pa_nil hs) hbase hfew hline hs hplain, fun R F H σ Γ ex Q Qt g h eq w => ?_⟩
  obtain ⟨hl, w⟩ := w
  obtain ⟨p, vs, ds, f, _, s, e1, _⟩ := hl.get h
  refine ⟨.ref p, s.at_, .inl ⟨rfl, vs, .inl (.inl e1)⟩, ?_⟩
  refine kt R F H σ Γ ex _ _ g h (fun v F1 H1 Γ1 d fr h1 x1 r1 w1 => ?_) w
  cases q : ownAt Γ1 i with
  | none => simp only [q] at w1
  | some z =>
    obtain ⟨d2, f2⟩ := z
    cases d2 with
    | lst ds2 =>
      simp only [q] at w1
      obtain ⟨p2, s2⟩ := own_st h1 q
      obtain ⟨vs2, e2, r2⟩ := s2.top
      have ep : p2 = p := by
        have z1 := s.at_
        rw [s2.at_] at z1
        cases z1
        rfl
      subst ep
      obtain ⟨ra, rb⟩ := rp_both r2 r1
      have t : TopH (fF R F1 (f2 && fr)) (upd H1 p2 (.lst (vs2 ++ [v]))) p2 (.lst (ds2 ++ [d])) := ⟨_, upd_same, ra.append (.cons rb .nil)⟩
      exact ⟨p2, vs2, v, rfl, rfl, e2, by rw [r2.length]; exact w1.1, eq .non F1 _ _ .non true (s2.to_ _ _ _ t).1 (x1.trans (s2.nx t)) .non w1.2⟩
    | _ => simp only [q] at w1
/-- x.pop() -/
@[reducible] def wPop (i : Nat) : WE := fun _ Γ Q => match ownAt Γ i with
  | some (.lst ds, f) => (match ds.getLast? with
    | some d => Q d (f || flt d) (ownTo Γ i (.lst ds.dropLast) f)
    | none => False)
  | _ => False
theorem pw_pop (i : Nat) {apos : Pos} (hN : X.N[i]? = some x := by rfl) (hv : Vis X.env.scope x := by first | exact Or.inl rfl | exact Or.inr (Or.inl rfl) | exact Or.inr (Or.inr rfl)) (hd : (x == ("__debug__" : Str)) = false := by decide) (hcd : (x == ("__classdict__" : Str)) = false := by decide)
    (hbase : attributeBase (.Name x p) "pop" X.env (eval (.Name x p) X.env) = eval (.Name x p) X.env := by rfl) (hline : (apos.endLine == pos.line) = true := by rfl) :
    PWE X E (.Call (.Attribute (.Name x p) "pop" apos) [] [] pos) (wPop i) := by
  refine ⟨_, pe_bm0 PySem.F.plainAttrs_list PySem.F.slot_list_pop PySem.F.type_list_pop mt_pop (pe_var hN hv hd hcd) hbase hline, fun R F H σ Γ ex Q Qt g h eq w => ?_⟩
  unfold wPop at w
  cases q : ownAt Γ i with
  | none => simp only [q] at w
  | some z =>
    obtain ⟨d2, f2⟩ := z
    cases d2 with
    | lst ds =>
      simp only [q] at w
      cases q2 : ds.getLast? with
      | none => simp only [q2] at w
      | some d =>
        simp only [q2] at w
        obtain ⟨p, s⟩ := own_st h q
        obtain ⟨vs, e1, r⟩ := s.top
        have q3 : ds[ds.length - 1]? = some d := by rw [← List.getLast?_eq_getElem?]; exact q2
        obtain ⟨v, e3, rv⟩ := r.get q3
        have t : TopH (fF R F f2) (upd H p (.lst vs.dropLast)) p (.lst ds.dropLast) := ⟨_, upd_same, r.dropLast⟩
        exact ⟨.ref p, s.at_, .inl ⟨rfl, vs, .inl (.inl e1)⟩, p, vs, v, rfl, rfl, e1, by rw [r.length]; exact e3, eq v F _ _ d _ (s.to_ _ _ _ t).1 (s.nx t) (Rp.fq (R := R) rv) w⟩
    | _ => simp only [q] at w
/-- x.pop(k) -/
@[reducible] def wPopAt (i : Nat) (we : WE) : WE := fun ex Γ Q => hasL Γ i ∧ we ex Γ fun y _ Γ1 => match ownAt Γ1 i, y with
  | some (.lst ds, f), .int k => (-(2 ^ 63) ≤ k ∧ k < 2 ^ 63) ∧ (match seqIndex? k ds.length with
    | some j => (match ds[j]? with
      | some d => Q d (f || flt d) (ownTo Γ1 i (.lst (ds.eraseIdx j)) f)
      | none => False)
    | none => False)
  | _, _ => False
theorem pw_popAt (i : Nat) {apos : Pos} (he : PWE X E e wa) (hN : X.N[i]? = some x := by rfl) (hv : Vis X.env.scope x := by first | exact Or.inl rfl | exact Or.inr (Or.inl rfl) | exact Or.inr (Or.inr rfl)) (hd : (x == ("__debug__" : Str)) = false := by decide) (hcd : (x == ("__classdict__" : Str)) = false := by decide)
    (hbase : attributeBase (.Name x p) "pop" X.env (eval (.Name x p) X.env) = eval (.Name x p) X.env := by rfl)
    (hfew : ((backTo pos (starEach (e :: []) X.env)).all (fun x => !x.1) && (backToKw pos (keywordEach [] X.env)).all (fun x => x.1.isSome) && decide ((e :: []).length + ([] : List Keyword).length + (if ([] : List Keyword).isEmpty then 0 else 1) < 30)) = true := by rfl)
    (hline : (apos.endLine == pos.line) = true := by rfl) (hs : starEach (e :: []) X.env = (false, eval e X.env) :: starEach [] X.env := by rfl) (hplain : (backTo pos (starEach [] X.env)).any (·.1) = false := by rfl) :
    PWE X E (.Call (.Attribute (.Name x p) "pop" apos) [e] [] pos) (wPopAt i wa) := by
  obtain ⟨t, pt, kt⟩ := he
  refine ⟨_, pe_bm PySem.F.plainAttrs_list PySem.F.slot_list_pop PySem.F.type_list_pop mt_popAt (pe_var hN hv hd hcd) (pa_cons pt pa_nil hs) hbase hfew hline hs hplain, fun R F H σ Γ ex Q Qt g h eq w => ?_⟩
  obtain ⟨hl, w⟩ := w
  obtain ⟨p, vs, ds, f, _, s, e1, _⟩ := hl.get h
  refine ⟨.ref p, s.at_, .inl ⟨rfl, vs, .inl (.inl e1)⟩, ?_⟩
  refine kt R F H σ Γ ex _ _ g h (fun v F1 H1 Γ1 d fr h1 x1 r1 w1 => ?_) w
  cases q : ownAt Γ1 i with
  | none => simp only [q] at w1
  | some z =>
    obtain ⟨d2, f2⟩ := z
    cases d2 with
    | lst ds2 => cases d with
      | int k =>
        simp only [q] at w1
        obtain ⟨⟨b1, b2⟩, w1⟩ := w1
        cases q2 : seqIndex? k ds2.length with
        | none => simp only [q2] at w1
        | some j =>
          simp only [q2] at w1
          cases q3 : ds2[j]? with
          | none => simp only [q3] at w1
          | some d3 =>
            simp only [q3] at w1
            obtain ⟨p2, s2⟩ := own_st h1 q
            obtain ⟨vs2, e2, r2⟩ := s2.top
            have ep : p2 = p := by
              have z1 := s.at_
              rw [s2.at_] at z1
              cases z1
              rfl
            subst ep
            obtain ⟨v3, e3, rv⟩ := r2.get q3
            have t : TopH (fF R F1 f2) (upd H1 p2 (.lst (vs2.eraseIdx j))) p2 (.lst (ds2.eraseIdx j)) := ⟨_, upd_same, r2.eraseIdx j⟩
            exact ⟨p2, vs2, k, j, v3, rfl, by rw [rp_int r1], e2, b1, b2, by rw [r2.length]; exact q2, e3, eq v3 F1 _ _ d3 _ (s2.to_ _ _ _ t).1 (x1.trans (s2.nx t)) (Rp.fq (R := R) rv) w1⟩
      | _ => simp only [q] at w1
    | _ => simp only [q] at w1
/-- x[k] = e, x a list of one's own -/
@[reducible] def wSetAt (i : Nat) (wi we : WE) : WS := fun P Γ => we P.xe Γ fun d fr Γ1 => ∃ o, ownAt Γ1 i = some o ∧ wi P.xe Γ1 fun y _ Γ2 => match ownAt Γ2 i, y with
  | some (.lst ds, f), .int k => (match ixN ds.length k with
    | some j => P.nx (ownTo Γ2 i (.lst (ds.set j d)) (f && fr))
    | none => False)
  | _, _ => False
theorem pws_setAt (i : Nat) {py : Pos} (he : PWE X E e wa) (hk : PWE X E b wb) (hN : X.N[i]? = some x := by rfl) (hv : Vis X.env.scope x := by first | exact Or.inl rfl | exact Or.inr (Or.inl rfl) | exact Or.inr (Or.inr rfl)) (hd : (x == ("__debug__" : Str)) = false := by decide) (hcd : (x == ("__classdict__" : Str)) = false := by decide)
    (ha : ∀ v, assign (.Subscript (.Name x p) b py) X.env v = (do
      let ov ← holding [v] (eval (.Name x p) X.env)
      let iv ← holding [v, ov] (eval b X.env)
      standAt py
      holding [v, ov, iv] (setItem ov iv v)
      release [v, ov, iv] []) := by intro _; rfl)
    (hs : swapsWithSole [.Subscript (.Name x p) b py] e pos.line X.env = pure false := by rfl) (hw : swappedStores [.Subscript (.Name x p) b py] e X.env = pure none := by rfl)
    (h1 : (assignEach [.Subscript (.Name x p) b py] X.env).map (·.2) = [assign (.Subscript (.Name x p) b py) X.env] := by rfl) :
    PWS X E (.Assign [.Subscript (.Name x p) b py] e pos) (wSetAt i wb wa) := by
  obtain ⟨t, pt, kt⟩ := he
  obtain ⟨u, pu, ku⟩ := hk
  refine ⟨_, ps_asg pt (pg_sub (pe_var hN hv hd hcd) pu set_list ha) hs hw h1, fun R F H σ Γ P T g h s w => ?_⟩
  refine kt R F H σ Γ P.xe _ _ g h (fun v F1 H1 Γ1 d fr h1 x1 r1 w1 => ?_) w
  obtain ⟨o, q0, w1⟩ := w1
  obtain ⟨p1, s1⟩ := own_st (o := o.1) (fr := o.2) h1 q0
  refine ⟨.ref p1, s1.at_, ?_⟩
  refine ku R F1 H1 σ Γ1 P.xe _ _ g h1 (fun y F2 H2 Γ2 dy fy h2 x2 r2 w2 => ?_) w1
  cases q : ownAt Γ2 i with
  | none => simp only [q] at w2
  | some z =>
    obtain ⟨d2, f2⟩ := z
    cases d2 with
    | lst ds2 => cases dy with
      | int k =>
        simp only [q] at w2
        cases q2 : ixN ds2.length k with
        | none => simp only [q2] at w2
        | some j =>
          simp only [q2] at w2
          obtain ⟨p2, s2⟩ := own_st h2 q
          obtain ⟨vs2, e2, rr⟩ := s2.top
          have ep : p2 = p1 := by
            have z1 := s1.at_
            rw [s2.at_] at z1
            cases z1
            rfl
          subst ep
          obtain ⟨ra, rb⟩ := rp_both rr (r1.mono (fF_mono x2.ex))
          have t : TopH (fF R F2 (f2 && fr)) (upd H2 p2 (.lst (vs2.set j v))) p2 (.lst (ds2.set j d)) := ⟨_, upd_same, ra.set rb j⟩
          exact ⟨p2, vs2, k, j, rfl, rp_int r2, e2, by rw [rr.length]; exact q2, s.nx F2 _ _ _ (s2.to_ _ _ _ t).1 (x1.trans x2).ex w2⟩
      | _ => simp only [q] at w2
    | _ => simp only [q] at w2
/-- d[k] = e, d a dict of one's own -/
def putD {κ : Type} [DecidableEq κ] (kvs : List (κ × D)) (k : κ) (d : D) : List (κ × D) := if (kvs.any fun kv => decide (kv.1 = k)) = true then kvs.map fun kv => if kv.1 = k then (kv.1, d) else kv else kvs ++ [(k, d)]
end
end Y

/-! Y: part 9: what is walked; for, while, list comprehensions. -/
namespace Y
open PySem L2

/-- things of one's own that a walk looks into: slot, content -/
abbrev Dep := List (Nat × D × Bool)
def depOk (σ0 σ : L2.St) (Γ : En) (dp : Dep) : Prop := ∀ x ∈ dp, σ[x.1]? = σ0[x.1]? ∧ lkV Γ (.own x.1) = some x.2
/-- a walk's iterator J yields these items, while what it looks into stands -/
def ItOk (R : Rl) (F : Hp) (σ : L2.St) (J : It) (items : List (D × Bool)) (dp : Dep) : Prop :=
  ∀ (i : Nat) (F' H' : Hp) (σ' : L2.St) (Γ' : En), Ex F F' → Hd R F' H' σ' Γ' → depOk σ σ' Γ' dp →
    (∀ d fr, items[i]? = some (d, fr) → J.go i H' ∧ ∀ x H2, J.yld i H' x H2 → ∃ F2, Ex F' F2 ∧ Ex H' H2 ∧ (∀ a u, F2 a = some u → RdD H2 a u) ∧ (∀ a u, F2 a = some u → F' a = some u ∨ H' a = none) ∧ Rpf R F2 fr x d) ∧
    (items.length ≤ i → J.stop i H')
abbrev WI := EX → En → (List (D × Bool) → Dep → En → Prop) → Prop
def IQ (R : Rl) (F H : Hp) (σ : L2.St) (Γ : En) (Q : List (D × Bool) → Dep → En → Prop) (Rt : It → Hp → Prop) : Prop := ∀ J F' H' Γ' items dp, Hd R F' H' σ Γ' → Nx σ F H Γ F' H' Γ' → ItOk R F' σ J items dp → Q items dp Γ' → Rt J H'
def SI (X : Cx) (E : XK) (wi : TI) (w : WI) : Prop := ∀ (R : Rl) (F H : Hp) (σ : L2.St) (Γ : En) (ex : EX) Q Rt, Go X R E ex → Hd R F H σ Γ → IQ R F H σ Γ Q Rt → w ex Γ Q → wi σ H Rt
def PWI (X : Cx) (E : XK) (tg it : Expr) (w : WI) : Prop := ∃ wi : TI, PI X tg it wi ∧ SI X E wi w
def rngD (lo : Int) (n : Nat) : List (D × Bool) := (List.range n).map fun (i : Nat) => (D.int (lo + i), true)
section
variable {X : Cx} {E : XK} {e a b c tg : Expr} {es : List Expr} {pos p : Pos} {x : Str} {wa wb wc : WE} {va vb : WV}
theorem sql_of {K : PySem.W.Frag} {H : Hp} {a : Addr} {xs : List V} (h : H a = some (.lst xs)) : SqL K H a xs := .inl (.inl h)
/-- what is looked into stands, at whatever values -/
theorem vw_stands {R : Rl} {F1 H1 : Hp} {σ : L2.St} {Γ1 : En} (h1 : Hd R F1 H1 σ Γ1) {v : V} {vw : Vw} {ds : List D} {fr : Bool} (r1 : VwOk R F1 σ v vw) (l : lkV Γ1 vw = some (.lst ds, fr)) {F' H' : Hp} {σ' : L2.St} {Γ' : En} (xF : Ex F1 F') (h' : Hd R F' H' σ' Γ')
    (dp : ∀ j, vw = .own j → σ'[j]? = σ[j]? ∧ lkV Γ' (.own j) = some (.lst ds, fr)) {p : Addr} (e1 : v = .ref p) : ∃ vs, H' p = some (.lst vs) ∧ RpAll (fF R F' fr) vs ds := by
  subst e1
  cases vw with
  | val d' fr' =>
    have ee : (d', fr') = (D.lst ds, fr) := Option.some.inj l
    injection ee with e3 e4
    subst e3
    subst e4
    have r1' : Rp (fF R F1 fr') (.ref p) (.lst ds) := r1
    cases r1' with
    | lst z r' => exact ⟨_, RdD.lst (h'.sub _ _ (xF _ _ (fF_ex _ _ z))), r'.mono (fF_mono xF)⟩
  | own j =>
    obtain ⟨z1, z2⟩ := dp j rfl
    have z3 : σ[j]? = some (some (.ref p)) := r1
    have z4 : σ'[j]? = some (some (.ref p)) := z1.trans z3
    obtain ⟨p2, vs2, e3, e4, r2⟩ := vw_sees h' (v := .ref p) (vw := .own j) z4 z2
    cases e3
    exact ⟨vs2, e4, r2⟩
@[reducible] def depOf (vw : Vw) (d : D) (fr : Bool) : Dep := match vw with
  | .own i => [(i, d, fr)]
  | .val _ _ => []
theorem depOf_ok {σ0 σ : L2.St} {Γ : En} {vw : Vw} {d : D} {fr : Bool} (h : depOk σ0 σ Γ (depOf vw d fr)) : ∀ j, vw = .own j → σ[j]? = σ0[j]? ∧ lkV Γ (.own j) = some (d, fr) := fun j e => by
  subst e
  exact h (j, d, fr) (by simp [depOf])
theorem map_get {ds : List D} {fr : Bool} {i : Nat} {d : D} {f : Bool} (h : (ds.map fun d => (d, fr))[i]? = some (d, f)) : ds[i]? = some d ∧ f = fr := by
  rw [List.getElem?_map] at h
  cases q : ds[i]? with
  | none => rw [q] at h; cases h
  | some z =>
    rw [q] at h
    cases h
    exact ⟨rfl, rfl⟩
/-- a list that is looked into, as items -/
@[reducible] def wItL (va : WV) : WI := fun ex Γ Q => va ex Γ fun vw Γ1 => match lkV Γ1 vw with
  | some (.lst ds, fr) => Q (ds.map fun d => (d, fr)) (depOf vw (.lst ds) fr) Γ1
  | _ => False
theorem pi_lst (ha : PWV X E a va) : PWI X E tg a (wItL va) := by
  obtain ⟨t, pt, kt⟩ := ha
  refine ⟨_, pi_list pt, fun R F H σ Γ ex Q Rt g h iq w => ?_⟩
  refine kt R F H σ Γ ex _ _ g h (fun v F1 H1 Γ1 vw h1 x1 r1 w1 => ?_) w
  cases l : lkV Γ1 vw with
  | none => simp only [l] at w1
  | some q =>
    obtain ⟨d, fr⟩ := q
    cases d with
    | lst ds =>
      simp only [l] at w1
      obtain ⟨p, vs, e1, e2, r⟩ := vw_sees h1 r1 l
      refine ⟨p, e1, ⟨vs, sql_of e2⟩, ?_⟩
      refine iq (Itl X.K p) F1 H1 Γ1 _ _ h1 x1 (fun i F' H' σ' Γ' xF h' dp => ?_) w1
      obtain ⟨vs', st1, st2⟩ := vw_stands h1 r1 l xF h' (depOf_ok dp) e1
      refine ⟨fun d f hi => ?_, fun hi => ⟨vs', sql_of st1, by rw [st2.length]; simpa using hi⟩⟩
      obtain ⟨hd, ef⟩ := map_get hi
      subst ef
      obtain ⟨y, ey, ry⟩ := st2.get hd
      refine ⟨⟨vs', y, sql_of st1, ey⟩, fun x H2 hy => ?_⟩
      obtain ⟨eH, hx⟩ := hy
      subst eH
      have ex2 := hx vs' (sql_of st1)
      rw [ey] at ex2
      cases ex2
      exact ⟨F', Ex.refl _, Ex.refl _, h'.sub, fun a u z => .inl z, ry⟩
    | _ => simp only [l] at w1
/-- range(n), range(a, b) -/
@[reducible] def wItR1 (wa : WE) : WI := fun ex Γ Q => wa ex Γ fun d _ Γ1 => match d with
  | .int n => (-(2 ^ 62) ≤ n ∧ n < 2 ^ 62) ∧ Q (rngD 0 n.toNat) [] Γ1
  | _ => False
@[reducible] def wItR2 (wa wb : WE) : WI := fun ex Γ Q => wa ex Γ fun d _ Γ1 => wb ex Γ1 fun d2 _ Γ2 => match d, d2 with
  | .int a, .int b => (-(2 ^ 62) ≤ a ∧ a < 2 ^ 62 ∧ -(2 ^ 62) ≤ b ∧ b < 2 ^ 62) ∧ Q (rngD a (b - a).toNat) [] Γ2
  | _, _ => False
theorem rng_it {R : Rl} {F : Hp} {σ : L2.St} {lo : Int} {n : Nat} : ItOk R F σ (Itr lo n) (rngD lo n) [] := fun i F' H' σ' Γ' xF h' dp => by
  refine ⟨fun d f hi => ?_, fun hi => ?_⟩
  · unfold rngD at hi
    rw [List.getElem?_map] at hi
    cases q : (List.range n)[i]? with
    | none => rw [q] at hi; cases hi
    | some j =>
      rw [q] at hi
      obtain ⟨hj, ej⟩ := List.getElem?_eq_some_iff.mp q
      rw [List.getElem_range] at ej
      subst ej
      rw [List.length_range] at hj
      cases hi
      refine ⟨hj, fun x H2 hy => ?_⟩
      obtain ⟨eH, ex⟩ := hy
      subst eH
      subst ex
      exact ⟨F', Ex.refl _, Ex.refl _, h'.sub, fun a u z => .inl z, .int _⟩
  · unfold rngD at hi
    rw [List.length_map, List.length_range] at hi
    exact hi
theorem pi_rng1 (hm : X.mg "range" = none) (ha : PWE X E a wa) (hg : Gl X "range" := by rfl) (hs : starEach [a] X.env = [(false, eval a X.env)] := by rfl) : PWI X E tg (.Call (.Name "range" p) [a] [] pos) (wItR1 wa) := by
  obtain ⟨t, pt, kt⟩ := ha
  refine ⟨_, pi_range1 hg hm (pa_cons pt pa_nil hs) hs, fun R F H σ Γ ex Q Rt g h iq w => ?_⟩
  refine kt R F H σ Γ ex _ _ g h (fun v F1 H1 Γ1 d fr h1 x1 r1 w1 => ?_) w
  cases d with
  | int n =>
    have e := rp_int r1
    subst e
    exact ⟨n, rfl, w1.1.1, w1.1.2, iq _ F1 H1 Γ1 _ _ h1 x1 rng_it w1.2⟩
  | _ => exact w1.elim
theorem pi_rng2 (hm : X.mg "range" = none) (ha : PWE X E a wa) (hb : PWE X E b wb) (hg : Gl X "range" := by rfl) (hs : starEach [a, b] X.env = [(false, eval a X.env), (false, eval b X.env)] := by rfl) (hs2 : starEach [b] X.env = [(false, eval b X.env)] := by rfl) :
    PWI X E tg (.Call (.Name "range" p) [a, b] [] pos) (wItR2 wa wb) := by
  obtain ⟨t, pt, kt⟩ := ha
  obtain ⟨u, pu, ku⟩ := hb
  refine ⟨_, pi_range2 hg hm (pa_cons pt (pa_cons pu pa_nil hs2) (hs.trans (by rw [hs2]))) hs hs2, fun R F H σ Γ ex Q Rt g h iq w => ?_⟩
  refine kt R F H σ Γ ex _ _ g h (fun v F1 H1 Γ1 d fr h1 x1 r1 w1 => ku R F1 H1 σ Γ1 ex _ _ g h1 (fun v2 F2 H2 Γ2 d2 fr2 h2 x2 r2 w2 => ?_) w1) w
  cases d with
  | int n => cases d2 with
    | int m =>
      have e := rp_int r1
      subst e
      have e := rp_int r2
      subst e
      exact ⟨n, m, rfl, w2.1, iq _ F2 H2 Γ2 _ _ h2 (x1.trans x2) rng_it w2.2⟩
    | _ => exact w2.elim
  | _ => exact w2.elim
/-- enumerate(xs) -/
def enumD (ds : List D) (fr : Bool) : List (D × Bool) := ds.zipIdx.map fun q => (.tup [.int (q.2 : Int), q.1], fr)
@[reducible] def wItE (va : WV) : WI := fun ex Γ Q => va ex Γ fun vw Γ1 => match lkV Γ1 vw with
  | some (.lst ds, fr) => Q (enumD ds fr) (depOf vw (.lst ds) fr) Γ1
  | _ => False
theorem enum_get {ds : List D} {fr f : Bool} {i : Nat} {d : D} (h : (enumD ds fr)[i]? = some (d, f)) : ∃ z, ds[i]? = some z ∧ d = .tup [.int (i : Int), z] ∧ f = fr := by
  unfold enumD at h
  rw [List.getElem?_map, List.getElem?_zipIdx] at h
  cases q : ds[i]? with
  | none => rw [q] at h; cases h
  | some z =>
    rw [q] at h
    simp at h
    exact ⟨z, rfl, h.1.symm, h.2.symm⟩
theorem enum_len {ds : List D} {fr : Bool} : (enumD ds fr).length = ds.length := by simp [enumD]
theorem pi_en {elts : List Expr} {kk : Nat} {tpos : Pos} (hm : X.mg "enumerate" = none) (ha : PWV X E a va) (hg : Gl X "enumerate" := by rfl) (hs : starEach [a] X.env = [(false, eval a X.env)] := by rfl) : PWI X E (.Tuple elts kk tpos) (.Call (.Name "enumerate" p) [a] [] pos) (wItE va) := by
  obtain ⟨t, pt, kt⟩ := ha
  refine ⟨_, pi_enum hg hm (pa_cons pt pa_nil hs) hs, fun R F H σ Γ ex Q Rt g h iq w => ?_⟩
  refine kt R F H σ Γ ex _ _ g h (fun v F1 H1 Γ1 vw h1 x1 r1 w1 => ?_) w
  cases l : lkV Γ1 vw with
  | none => simp only [l] at w1
  | some q =>
    obtain ⟨d, fr⟩ := q
    cases d with
    | lst ds =>
      simp only [l] at w1
      obtain ⟨p, vs, e1, e2, r⟩ := vw_sees h1 r1 l
      refine ⟨p, vs, by rw [e1], sql_of e2, ?_⟩
      refine iq (Ite X.K p) F1 H1 Γ1 _ _ h1 x1 (fun i F' H' σ' Γ' xF h' dp => ?_) w1
      obtain ⟨vs', st1, st2⟩ := vw_stands h1 r1 l xF h' (depOf_ok dp) e1
      refine ⟨fun d f hi => ?_, fun hi => ⟨vs', sql_of st1, by rw [st2.length]; rw [enum_len] at hi; exact hi⟩⟩
      obtain ⟨z, hz, ed, ef⟩ := enum_get hi
      subst ed
      subst ef
      obtain ⟨y, ey, ry⟩ := st2.get hz
      refine ⟨⟨vs', y, sql_of st1, ey⟩, fun x H2 hy => ?_⟩
      obtain ⟨T, y2, e3, hT, eH, hx⟩ := hy
      have ex2 := hx vs' (sql_of st1)
      rw [ey] at ex2
      cases ex2
      subst e3
      subst eH
      obtain ⟨h2, x2, at_⟩ := h'.newF (o := .tup [.int (i : Nat), y]) hT
      refine ⟨_, x2.ex, Ex.new hT, h2.sub, fun a u z => ?_, .tup (at_ _) (.cons (.int _) (.cons (ry.mono (fF_mono x2.ex)) .nil))⟩
      by_cases ha : a = T
      · rw [ha]; exact .inr hT
      · rw [upd_ne ha] at z
        exact .inl z
    | _ => simp only [l] at w1

/-! ### for -/
@[reducible] def forGo (tg : WG) (body : WS) (P : DE) : List (D × Bool) → En → Prop
  | [], Γ => P.nx Γ
  | x :: xs, Γ => tg x.1 x.2 Γ fun Γ1 => body { P with nx := forGo tg body P xs, ct := forGo tg body P xs, bk := P.nx } Γ1
@[reducible] def wFor (wi : WI) (tg : WG) (body : WS) : WS := fun P Γ => wi P.xe Γ fun items dp Γ1 => dp = [] ∧ forGo tg body P items Γ1
theorem drop_cons {α : Type} {l : List α} {i : Nat} (h : i < l.length) : l.drop i = l[i] :: l.drop (i + 1) := List.drop_eq_getElem_cons h
theorem pws_for {it : Expr} {body : List Stmt} {w : WI} {wg : WG} {wb : WS} {sl : List Nat} (hp : PassesOwn (model X.prog X.w) X.A X.env X.xe) (hc : X.calm = true) (hi : PWI X E tg it w) (hg : PWG X sl tg wg) (hb : PWSs X E body wb)
    (hs : ∀ x, foldedSetIterable it X.env x = pure x := by intro _; rfl) : PWS X E (.For tg it body [] pos) (wFor w wg wb) := by
  obtain ⟨wi, pi, ki⟩ := hi
  obtain ⟨tg', pg, kg⟩ := hg
  obtain ⟨tb, pb, kb⟩ := hb
  refine ⟨_, ps_for hp hc pi pg pb hs, fun R F H σ Γ P T g h s w => ?_⟩
  refine ki R F H σ Γ P.xe _ _ g h (fun J F1 H1 Γ1 items dp h1 x1 it q => ?_) w
  obtain ⟨ed, q⟩ := q
  subst ed
  refine ⟨fun i m σ H => m = items.length - i ∧ i ≤ items.length ∧ ∃ F Γ, Ex F1 F ∧ Hd R F H σ Γ ∧ forGo wg wb P (items.drop i) Γ, ⟨items.length, rfl, Nat.zero_le _, F1, Γ1, Ex.refl _, h1, q⟩, ?_⟩
  rintro i m σ2 H2 ⟨em, hi, F2, Γ2, x2, h2, q2⟩
  obtain ⟨it1, it2⟩ := it i F2 H2 σ2 Γ2 x2 h2 (fun z hz => absurd hz (by simp))
  by_cases hlt : i < items.length
  · obtain ⟨go, yld⟩ := it1 items[i].1 items[i].2 (List.getElem?_eq_getElem hlt)
    refine .inr ⟨go, fun σ' H' => ∃ F Γ, Ex F1 F ∧ Hd R F H' σ' Γ ∧ forGo wg wb P (items.drop (i + 1)) Γ, fun σ' H' ⟨F', Γ', a1, a2, a3⟩ => ⟨items.length - (i + 1), by omega, rfl, hlt, F', Γ', a1, a2, a3⟩, fun x H' hy => ?_⟩
    obtain ⟨F3, x3, xH, sub, new, rx⟩ := yld x H' hy
    rw [drop_cons hlt] at q2
    have h3 := h2.grow xH x3 sub new
    refine kg R F3 H' σ2 Γ2 x _ _ _ _ g.K h3 rx (fun σ4 Γ4 h4 _ q4 => ?_) q2
    refine kb R F3 H' σ4 Γ4 _ _ (by exact g) h4 ?_ q4
    have x13 := (x1.ex.trans x2).trans x3
    exact ⟨fun F' H' σ' Γ' hh xx qq => ⟨F', Γ', (x2.trans x3).trans xx, hh, qq⟩, fun v F' H' σ' Γ' d fr hh xx => s.rt v F' H' σ' Γ' d fr hh (x13.trans xx), fun F' H' σ' Γ' hh xx => s.nx F' H' σ' Γ' hh (x13.trans xx), fun F' H' σ' Γ' hh xx qq => ⟨F', Γ', (x2.trans x3).trans xx, hh, qq⟩⟩
  · have e : i = items.length := by omega
    subst e
    rw [List.drop_length] at q2
    exact .inl ⟨it2 (Nat.le_refl _), s.nx F2 H2 σ2 Γ2 h2 (x1.ex.trans x2) q2⟩
/-! ### while: an invariant by a measure -/
@[reducible] def wWhile (c : WT) (body : WS) : WS := fun P Γ => ∃ W : Nat → En → Prop, (∃ m, W m Γ) ∧ ∀ m Γ, W m Γ → c P.xe Γ fun b Γ1 => ifB b (body { P with nx := fun Γ2 => ∃ m', m' < m ∧ W m' Γ2, ct := fun Γ2 => ∃ m', m' < m ∧ W m' Γ2, bk := P.nx } Γ1) (P.nx Γ1)
theorem pws_while {body : List Stmt} {wc : WT} {wb : WS} (hp : PassesOwn (model X.prog X.w) X.A X.env X.xe) (hc : PWT X E c wc) (hb : PWSs X E body wb) : PWS X E (.While c body [] pos) (wWhile wc wb) := by
  obtain ⟨tc, pc, kc⟩ := hc
  obtain ⟨tb, pb, kb⟩ := hb
  refine ⟨_, ps_while hp pc pb, fun R F H σ Γ P T g h s w => ?_⟩
  obtain ⟨W, ⟨m0, w0⟩, turn⟩ := w
  refine ⟨fun m σ H => ∃ F' Γ, Ex F F' ∧ Hd R F' H σ Γ ∧ W m Γ, ⟨m0, F, Γ, Ex.refl _, h, w0⟩, ?_⟩
  rintro m σ1 H1 ⟨F1, Γ1, x1, h1, w1⟩
  refine kc R F1 H1 σ1 Γ1 P.xe _ _ g h1 (fun b F2 H2 Γ2 h2 x2 q => ?_) (turn m Γ1 w1)
  cases b with
  | true =>
    rw [if_pos rfl]
    refine ⟨fun σ' H' => ∃ F' Γ m', Ex F F' ∧ Hd R F' H' σ' Γ ∧ m' < m ∧ W m' Γ, fun σ' H' ⟨F', Γ', m', a1, a2, a3, a4⟩ => ⟨m', a3, F', Γ', a1, a2, a4⟩, ?_⟩
    refine kb R F2 H2 σ1 Γ2 _ _ (by exact g) h2 ?_ q
    have x12 := x1.trans x2.ex
    exact ⟨fun F' H' σ' Γ' hh xx ⟨m', l, qq⟩ => ⟨F', Γ', m', x12.trans xx, hh, l, qq⟩, fun v F' H' σ' Γ' d fr hh xx => s.rt v F' H' σ' Γ' d fr hh (x12.trans xx), fun F' H' σ' Γ' hh xx => s.nx F' H' σ' Γ' hh (x12.trans xx), fun F' H' σ' Γ' hh xx ⟨m', l, qq⟩ => ⟨F', Γ', m', x12.trans xx, hh, l, qq⟩⟩
  | false =>
    rw [if_neg Bool.false_ne_true]
    exact s.nx F2 H2 σ1 Γ2 h2 (x1.trans x2.ex) q
end
end Y

/-! Y: part 10: list comprehensions. -/
namespace Y
open PySem PySem.Spec PyProof.Rows L2

section
variable {X : Cx} {E : XK}
/-- every block of this comprehension's scope -/
abbrev Blk (X : Cx) (scope : Scope) (Φ : Cx → Prop) : Prop := ∀ (s : Shared) (H : Hp) (C : Addr) (cl : List (Str × Addr)) (fp : List Addr), Φ (X.blk s H scope (compEnvC scope cl C X.env) fp)
theorem go_blk {R : Rl} {ex : EX} {s : Shared} {H : Hp} {scope : Scope} {cenv : Env} {fp : List Addr} (g : Go X R E ex) : Go (X.blk s H scope cenv fp) R E ex := ⟨g.K, g.lk⟩
theorem go_none {R : Rl} (hK : R.K = X.K) : Go X R E0 (fun _ _ => False) := ⟨hK, fun _ _ _ _ _ _ _ _ h => h.elim⟩
theorem blk_e {scope : Scope} {e : Expr} {w : WE} (h : Blk X scope fun Y => PWE Y E e w) : ∃ te : TE, (Blk X scope fun Y => PE Y e te) ∧ SE X E te w := by
  refine ⟨fun σ H Q => ∀ (s : Shared) (H0 : Hp) (C : Addr) (cl : List (Str × Addr)) (fp : List Addr), (h s H0 C cl fp).choose σ H Q, fun s H0 C cl fp => ⟨fun pins st σ H Q I q => (h s H0 C cl fp).choose_spec.1.run pins st σ H Q I (q s H0 C cl fp)⟩, ?_⟩
  intro R F H σ Γ ex Q Qt g hd eq hw s H0 C cl fp
  exact (h s H0 C cl fp).choose_spec.2 R F H σ Γ ex Q Qt (go_blk g) hd eq hw
def PWTs (X : Cx) (E : XK) (ifs : List Expr) (w : WT) : Prop := ∃ te : TT, PTs X ifs te ∧ ST X E te w
@[reducible] def wYes : WT := fun _ Γ Q => Q true Γ
theorem pwts_nil : PWTs X E [] wYes := ⟨_, pts_nil, fun R F H σ Γ ex Q Qt g h eq w => eq true F H Γ h Nx.refl w⟩
theorem pwts_one {c : Expr} {w : WT} (h : PWT X E c w) : PWTs X E [c] w := by
  obtain ⟨t, pt, kt⟩ := h
  exact ⟨_, pts_one pt, kt⟩
theorem blk_t {scope : Scope} {ifs : List Expr} {w : WT} (h : Blk X scope fun Y => PWTs Y E ifs w) : ∃ te : TT, (Blk X scope fun Y => PTs Y ifs te) ∧ ST X E te w := by
  refine ⟨fun σ H Q => ∀ (s : Shared) (H0 : Hp) (C : Addr) (cl : List (Str × Addr)) (fp : List Addr), (h s H0 C cl fp).choose σ H Q, fun s H0 C cl fp => ⟨fun pins st σ H Q I q => (h s H0 C cl fp).choose_spec.1.run pins st σ H Q I (q s H0 C cl fp)⟩, ?_⟩
  intro R F H σ Γ ex Q Qt g hd eq hw s H0 C cl fp
  exact (h s H0 C cl fp).choose_spec.2 R F H σ Γ ex Q Qt (go_blk g) hd eq hw
theorem blk_g {scope : Scope} {tg : Expr} {sl : List Nat} {w : WG} (h : Blk X scope fun Y => PWG Y sl tg w) : ∃ g : TG, (Blk X scope fun Y => PG Y tg g) ∧ SG X sl g w := by
  refine ⟨fun v σ H Q => ∀ (s : Shared) (H0 : Hp) (C : Addr) (cl : List (Str × Addr)) (fp : List Addr), (h s H0 C cl fp).choose v σ H Q, fun s H0 C cl fp => ⟨fun pins st σ H v u Q I r q => (h s H0 C cl fp).choose_spec.1.run pins st σ H v u Q I r (q s H0 C cl fp)⟩, ?_⟩
  intro R F H σ Γ v d fr Q Qt hK hd r k hw s H0 C cl fp
  exact (h s H0 C cl fp).choose_spec.2 R F H σ Γ v d fr Q Qt hK hd r k hw
end

/-! ### the block's slots -/
@[reducible] def wp (Γ : En) : List Nat → En
  | [] => Γ
  | v :: vs => st (wp Γ vs) v none
@[reducible] def keepS : Option Sl → Option Sl
  | some (.own _ _) => none
  | some (.ino _) => none
  | s => s
/-- behind the block: the block's own slots as they were ahead of it -/
@[reducible] def rs (Γ Γ' : En) : List Nat → En
  | [] => Γ'
  | v :: vs => st (rs Γ Γ' vs) v (keepS (gt Γ v))
theorem wp_length (Γ : En) : ∀ vs, (wp Γ vs).length = Γ.length
  | [] => rfl
  | v :: vs => by unfold wp; rw [st_length, wp_length Γ vs]
theorem gt_wp {Γ : En} {i : Nat} {s : Sl} : ∀ {vs : List Nat}, gt (wp Γ vs) i = some s → gt Γ i = some s ∧ i ∉ vs
  | [], h => ⟨h, by simp⟩
  | v :: vs, h => by
    unfold wp at h
    by_cases hi : i = v
    · subst hi
      have hl := gt_lt h
      rw [st_length] at hl
      rw [gt_st_same hl] at h
      cases h
    · rw [gt_st_ne hi] at h
      obtain ⟨h1, h2⟩ := gt_wp h
      exact ⟨h1, by simp [hi, h2]⟩
theorem gt_rs_out {Γ Γ' : En} {i : Nat} : ∀ {vs : List Nat}, i ∉ vs → gt (rs Γ Γ' vs) i = gt Γ' i
  | [], _ => rfl
  | v :: vs, h => by
    have h1 : i ≠ v := fun z => h (by simp [z])
    unfold rs
    rw [gt_st_ne h1, gt_rs_out fun z => h (by simp [z])]
theorem gt_rs_in {Γ Γ' : En} {i : Nat} {s : Sl} : ∀ {vs : List Nat}, i ∈ vs → gt (rs Γ Γ' vs) i = some s → keepS (gt Γ i) = some s
  | [], h, _ => by cases h
  | v :: vs, h, e => by
    unfold rs at e
    by_cases hi : i = v
    · subst hi
      have hl := gt_lt e
      rw [st_length] at hl
      rw [gt_st_same hl] at e
      exact e
    · rw [gt_st_ne hi] at e
      rcases List.mem_cons.mp h with q | q
      · exact absurd q hi
      · exact gt_rs_in q e
theorem rs_length (Γ Γ' : En) : ∀ vs, (rs Γ Γ' vs).length = Γ'.length
  | [] => rfl
  | v :: vs => by unfold rs; rw [st_length, rs_length Γ Γ' vs]
theorem wipe_in {σ : L2.St} {i : Nat} : ∀ {vs : List Nat}, i ∈ vs → i < σ.length → (wipe σ vs)[i]? = some none
  | [], h, _ => by cases h
  | v :: vs, h, hl => by
    unfold wipe
    by_cases hi : v = i
    · subst hi
      rw [List.getElem?_set_self (by rw [wipe_length]; exact hl)]
    · rw [List.getElem?_set_ne hi]
      rcases List.mem_cons.mp h with q | q
      · exact absurd q.symm hi
      · exact wipe_in q hl
theorem wipe_same {σ σ' : L2.St} {vs : List Nat} (hl : σ'.length = σ.length) (h : ∀ j, j ∉ vs → σ'[j]? = σ[j]?) : wipe σ' vs = wipe σ vs := by
  apply List.ext_getElem?
  intro i
  by_cases hi : i ∈ vs
  · by_cases hli : i < σ.length
    · rw [wipe_in hi hli, wipe_in hi (by rw [hl]; exact hli)]
    · rw [List.getElem?_eq_none (by rw [wipe_length, hl]; omega), List.getElem?_eq_none (by rw [wipe_length]; omega)]
  · rw [wipe_out hi, wipe_out hi, h i hi]
theorem wipe_wipe {σ : L2.St} {vs : List Nat} : wipe (wipe σ vs) vs = wipe σ vs := wipe_same (wipe_length _ _) fun j hj => wipe_out hj
section
variable {R : Rl} {F F' H H' : Hp} {σ σ2 : L2.St} {Γ Γ2 : En} {vs : List Nat}
theorem ow_wiped {a : Addr} (h : Ow (wipe σ vs) (wp Γ vs) a) : Ow σ Γ a := by
  obtain ⟨j, t, e1, e2, e3⟩ := h
  obtain ⟨h1, h2⟩ := gt_wp e1
  rw [wipe_out h2] at e3
  exact ⟨j, t, h1, e2, e3⟩
theorem Hd.wiped (h : Hd R F H σ Γ) (vs : List Nat) : Hd R F H (wipe σ vs) (wp Γ vs) where
  sub := h.sub
  base := h.base
  f0 := h.f0
  new := h.new
  iof := h.iof
  len := by rw [wp_length, wipe_length]; exact h.len
  sl := fun i s e => by
    obtain ⟨h1, h2⟩ := gt_wp e
    obtain ⟨v, e1, ok⟩ := h.sl i s h1
    exact ⟨v, by rw [wipe_out h2]; exact e1, ok⟩
  sep := fun i j s t p e1 e2 o1 o2 p1 p2 => by
    obtain ⟨a1, a2⟩ := gt_wp e1
    obtain ⟨b1, b2⟩ := gt_wp e2
    rw [wipe_out a2] at p1
    rw [wipe_out b2] at p2
    exact h.sep i j s t p a1 b1 o1 o2 p1 p2
/-- behind a turn: back to the def's own slots -/
theorem Hd.unwiped (h : Hd R F H σ Γ) (h2 : Hd R F' H' σ2 Γ2) (x : Ex F F') (hl : σ2.length = σ.length) (out : ∀ j, j ∉ vs → σ2[j]? = σ[j]?) : Hd R F' H' σ (rs Γ Γ2 vs) where
  sub := h2.sub
  base := h2.base
  f0 := h2.f0
  new := h2.new
  iof := h2.iof
  len := by
    rw [rs_length, h2.len, hl]
  sl := fun i s e => by
    by_cases hi : i ∈ vs
    · have k := gt_rs_in hi e
      cases q : gt Γ i with
      | none => rw [q] at k; cases k
      | some t =>
        rw [q] at k
        obtain ⟨v, e1, ok⟩ := h.sl i t q
        refine ⟨v, e1, ?_⟩
        cases t with
        | dat d fr => cases k; exact Rp.mono (fF_mono x) ok
        | raw u => cases k; exact ok
        | scr ns => cases k; exact ok
        | old d => cases k; exact ok
        | own _ _ => cases k
        | ino _ => cases k
    · rw [gt_rs_out hi] at e
      obtain ⟨v, e1, ok⟩ := h2.sl i s e
      exact ⟨v, by rw [← out i hi]; exact e1, ok⟩
  sep := fun i j s t p e1 e2 o1 o2 p1 p2 => by
    have key : ∀ {i : Nat} {s : Sl}, gt (rs Γ Γ2 vs) i = some s → owny s = true → i ∉ vs := fun {i s} e o hi => by
      have k := gt_rs_in hi e
      cases q : gt Γ i with
      | none => rw [q] at k; cases k
      | some t =>
        rw [q] at k
        cases t with
        | dat d fr => cases k; cases o
        | raw u => cases k; cases o
        | scr ns => cases k; cases o
        | old d => cases k; cases o
        | own _ _ => cases k
        | ino _ => cases k
    have n1 := key e1 o1
    have n2 := key e2 o2
    rw [gt_rs_out n1] at e1
    rw [gt_rs_out n2] at e2
    rw [← out i n1] at p1
    rw [← out j n2] at p2
    exact h2.sep i j s t p e1 e2 o1 o2 p1 p2
end

/-! ### the comprehension -/
abbrev ex0 : EX := fun _ _ => False
def depE (Γ : En) (dp : Dep) : Prop := ∀ z ∈ dp, lkV Γ (.own z.1) = some z.2
@[reducible] def lcGo (tg : WG) (tt : WT) (te : WE) (vs : List Nat) (dp : Dep) : List (D × Bool) → List D → Bool → En → (List D → Bool → En → Prop) → Prop
  | [], acc, f, Γ, K => depE Γ dp ∧ K acc f Γ
  | x :: xs, acc, f, Γ, K => depE Γ dp ∧ tg x.1 x.2 (wp Γ vs) fun Γ1 => tt ex0 Γ1 fun b Γ2 => ifB b (te ex0 Γ2 fun d fr Γ3 => lcGo tg tt te vs dp xs (acc ++ [d]) (f && fr) (rs Γ Γ3 vs) K) (lcGo tg tt te vs dp xs acc f (rs Γ Γ2 vs) K)
@[reducible] def wLc (wi : WI) (tg : WG) (tt : WT) (te : WE) (vs : List Nat) : WE := fun ex Γ Q => wi ex Γ fun items dp Γ1 => items.length ≤ sizeLine ∧ lcGo tg tt te vs dp items [] true Γ1 fun ds f Γ2 => Q (.lst ds) f Γ2
section
variable {X : Cx} {E : XK}
theorem rp_bothF {R : Rl} {F : Hp} {f fr : Bool} {vs : List V} {ds : List D} {v : V} {d : D} (r : RpAll (fF R F f) vs ds) (rv : Rpf R F fr v d) : RpAll (fF R F (f && fr)) (vs ++ [v]) (ds ++ [d]) := by
  obtain ⟨h1, h2⟩ := rp_both r rv
  exact h1.append (.cons h2 .nil)
theorem ow_rs {σ σ4 : L2.St} {Γ Γ6 : En} {vs : List Nat} {a : Addr} (out : ∀ j, j ∉ vs → σ4[j]? = σ[j]?) (h : Ow σ (rs Γ Γ6 vs) a) : Ow σ4 Γ6 a := by
  obtain ⟨i, s, e, o, z⟩ := h
  have n : i ∉ vs := fun hi => by
    have k := gt_rs_in hi e
    cases q : gt Γ i with
    | none => rw [q] at k; cases k
    | some t =>
      rw [q] at k
      cases t with
      | dat d fr => cases k; cases o
      | raw u => cases k; cases o
      | scr ns => cases k; cases o
      | old d => cases k; cases o
      | own _ _ => cases k
      | ino _ => cases k
  rw [gt_rs_out n] at e
  exact ⟨i, s, e, o, by rw [out i n]; exact z⟩
/-- what a block's turn leaves -/
theorem Nx.block {σ σ4 : L2.St} {F H F2 H2 F6 H6 : Hp} {Γ Γ4 Γ6 : En} {vs : List Nat} (x : Nx σ F H Γ F2 H2 Γ) (ow : ∀ a, Ow σ4 Γ4 a → Ow σ Γ a) (y : Nx σ4 F2 H2 Γ4 F6 H6 Γ6) (out : ∀ j, j ∉ vs → σ4[j]? = σ[j]?) : Nx σ F H Γ F6 H6 (rs Γ Γ6 vs) :=
  ⟨x.ex.trans y.ex, fun a o e n => y.keep a o (x.keep a o e n) fun z => n (ow a z), fun a z => ow a (y.ow a (ow_rs out z)), fun a u e => by
    rcases y.new a u e with q | q | q
    · exact x.new a u q
    · cases z : H a with
      | none => exact .inr (.inl rfl)
      | some o => exact absurd q (x.stay a (by rw [z]; simp))
    · exact .inr (.inr (ow a q)), fun a h => y.stay a (x.stay a h)⟩
theorem Nx.poke {σ : L2.St} {F H F2 H2 : Hp} {Γ Γ2 : En} {p : Addr} {u : HO} (x : Nx σ F H Γ F2 H2 Γ2) (hp : H p = none) : Nx σ F H Γ F2 (upd H2 p u) Γ2 :=
  ⟨x.ex, fun a o e n => by
    rw [upd_ne (fun z => by rw [z, hp] at e; cases e)]
    exact x.keep a o e n, x.ow, x.new, fun a h => by
    by_cases ha : a = p
    · rw [ha, upd_same]; simp
    · rw [upd_ne ha]; exact x.stay a h⟩
/-- the loop of a comprehension: behind it the new list stands at p -/
theorem lc_run {wi : TI} {g : TG} {tt : TT} {te : TE} {w : WI} {wg : WG} {wt : WT} {we : WE} {vs sl : List Nat} (ki : SI X E wi w) (kg : SG X sl g wg) (kt : ST X E0 tt wt) (ke : SE X E0 te we) (hsl : ∀ j ∈ sl, j ∈ vs)
    {R : Rl} {F H : Hp} {σ : L2.St} {Γ : En} {ex : EX} {Q : D → Bool → En → Prop} {Qt : VK} (gg : Go X R E ex) (h : Hd R F H σ Γ)
    (eq : ∀ p F' H' Γ' ds fr vals, Hd R F' H' σ Γ' → Nx σ F H Γ F' H' Γ' → F' p = none → R.H0 p = none → ¬ Ow σ Γ' p → H' p = some (.lst vals) → RpAll (fF R F' fr) vals ds → H p = none → Q (.lst ds) fr Γ' → Qt (.ref p) H') (q : wLc w wg wt we vs ex Γ Q) : tLc wi g tt te vs σ H Qt := by
  refine ki R F H σ Γ ex _ _ gg h (fun J F1 H1 Γ1 items dp h1 x1 it q => ?_) q
  obtain ⟨hsz, q⟩ := q
  intro D0 hD
  obtain ⟨hn, fn, zn, on⟩ := h1.newO (o := .lst []) hD
  have hH : H D0 = none := by
    cases z : H D0 with
    | none => rfl
    | some o => exact absurd hD (x1.stay D0 (by rw [z]; simp))
  refine ⟨fun i m Hc => m = items.length - i ∧ i ≤ items.length ∧ ∃ Fc Γc acc f vals, Hd R Fc Hc σ Γc ∧ Nx σ F1 H1 Γ1 Fc Hc Γc ∧ Hc D0 = some (.lst vals) ∧ RpAll (fF R Fc f) vals acc ∧ vals.length ≤ i ∧ Fc D0 = none ∧ ¬ Ow σ Γc D0 ∧
      lcGo wg wt we vs dp (items.drop i) acc f Γc (fun ds f Γ2 => Q (.lst ds) f Γ2), ⟨items.length, rfl, Nat.zero_le _, F1, Γ1, [], true, [], hn, Nx.refl.poke hD, upd_same, .nil, Nat.le_refl _, fn, on, q⟩, ?_⟩
  rintro i m Hc ⟨em, hi, Fc, Γc, acc, f, vals, hc, nc, eD, rc, hlen, fD, oD, q2⟩
  have dpo : depE Γc dp → depOk σ σ Γc dp := fun z y hy => ⟨rfl, z y hy⟩
  by_cases hlt : i < items.length
  · rw [drop_cons hlt] at q2
    obtain ⟨de, q2⟩ := q2
    obtain ⟨it1, _⟩ := it i Fc Hc σ Γc nc.ex hc (dpo de)
    obtain ⟨go, yld⟩ := it1 items[i].1 items[i].2 (List.getElem?_eq_getElem hlt)
    refine .inr ⟨go, fun H' => ∃ Fc Γc acc f vals, Hd R Fc H' σ Γc ∧ Nx σ F1 H1 Γ1 Fc H' Γc ∧ H' D0 = some (.lst vals) ∧ RpAll (fF R Fc f) vals acc ∧ vals.length ≤ i + 1 ∧ Fc D0 = none ∧ ¬ Ow σ Γc D0 ∧
      lcGo wg wt we vs dp (items.drop (i + 1)) acc f Γc (fun ds f Γ2 => Q (.lst ds) f Γ2), fun H' z => ⟨items.length - (i + 1), by omega, rfl, hlt, z⟩, fun x H2 hy => ?_⟩
    obtain ⟨F2, xF, xH, sub, new, rx⟩ := yld x H2 hy
    have h3 := hc.grow xH xF sub new
    have n3 : Nx σ Fc Hc Γc F2 H2 Γc := .grow xF xH new
    refine kg R F2 H2 _ _ x _ _ _ _ gg.K (h3.wiped vs) rx (fun σ4 Γ4 h4 s4 q4 => ?_) q2
    have out4 : ∀ j, j ∉ vs → σ4[j]? = σ[j]? := fun j hj => (s4.out j fun z => hj (hsl j z)).trans (wipe_out hj)
    have ow4 : ∀ a, Ow σ4 Γ4 a → Ow σ Γc a := fun a z => ow_wiped (s4.ow a z)
    have len4 : σ4.length = σ.length := s4.len.trans (wipe_length _ _)
    refine ⟨wipe_same len4 out4, ?_⟩
    -- behind the turn's expressions
    have back : ∀ {F6 H6 Γ6}, Hd R F6 H6 σ4 Γ6 → Nx σ4 F2 H2 Γ4 F6 H6 Γ6 → Hd R F6 H6 σ (rs Γc Γ6 vs) ∧ Nx σ Fc Hc Γc F6 H6 (rs Γc Γ6 vs) ∧ H6 D0 = some (.lst vals) ∧ F6 D0 = none ∧ ¬ Ow σ (rs Γc Γ6 vs) D0 := fun {F6 H6 Γ6} h6 x6 => by
      have o4 : ¬ Ow σ4 Γ4 D0 := fun z => oD (ow4 D0 z)
      have nb := n3.block ow4 x6 out4
      have e2 := xH _ _ eD
      refine ⟨h3.unwiped h6 x6.ex len4 out4, nb, x6.keep D0 _ e2 o4, ?_, fun z => oD (nb.ow D0 z)⟩
      cases z : F6 D0 with
      | none => rfl
      | some u =>
        rcases nb.new D0 u z with y | y | y
        · rw [fD] at y; cases y
        · rw [eD] at y; cases y
        · exact absurd y oD
    refine kt R F2 H2 σ4 Γ4 _ _ _ (go_none gg.K) h4 (fun b F5 H5 Γ5 h5 x5 q5 => ?_) q4
    cases b with
    | true =>
      show (if true = true then _ else _)
      rw [if_pos rfl]
      refine ke R F5 H5 σ4 Γ5 _ _ _ (go_none gg.K) h5 (fun v F6 H6 Γ6 d fr h6 x6 r6 q6 => ?_) q5
      obtain ⟨h7, n7, e7, f7, o7⟩ := back h6 (x5.trans x6)
      refine ⟨vals, e7, by omega, F6, rs Γc Γ6 vs, acc ++ [d], f && fr, vals ++ [v], h7.poke f7 o7 zn, (nc.trans n7).poke hD, upd_same, ?_, ?_, f7, o7, q6⟩
      · refine rp_bothF (rc.mono (fF_mono n7.ex)) r6
      · rw [List.length_append, List.length_singleton]; omega
    | false =>
      show (if false = true then _ else _)
      rw [if_neg Bool.false_ne_true]
      obtain ⟨h7, n7, e7, f7, o7⟩ := back h5 x5
      exact ⟨F5, rs Γc Γ5 vs, acc, f, vals, h7, nc.trans n7, e7, rc.mono (fF_mono n7.ex), by omega, f7, o7, q5⟩
  · have e : i = items.length := by omega
    subst e
    rw [List.drop_length] at q2
    obtain ⟨de, q2⟩ := q2
    obtain ⟨_, it2⟩ := it items.length Fc Hc σ Γc nc.ex hc (dpo de)
    exact .inl ⟨it2 (Nat.le_refl _), eq D0 Fc Hc Γc acc f vals hc (x1.trans nc) fD zn oD eD rc hH q2⟩
/-- a list that is not frozen yet becomes frozen -/
theorem Hd.frz {R : Rl} {F H : Hp} {σ : L2.St} {Γ : En} (h : Hd R F H σ Γ) {p : Addr} {u : HO} (hF : F p = none) (ho : ¬ Ow σ Γ p) (h0 : R.H0 p = none) (hH : H p = some u) : Hd R (upd F p u) H σ Γ ∧ ∀ fr, fF R (upd F p u) fr p = some u := by
  have xF : Ex F (upd F p u) := Ex.new hF
  refine ⟨{ sub := fun a w e => ?_, base := h.base, f0 := fun a w e => xF _ _ (h.f0 a w e), new := fun a w e => ?_, iof := fun a e => ?_, len := h.len, sl := fun j t e => ?_, sep := h.sep }, fun fr => ?_⟩
  · by_cases ha : a = p
    · rw [ha, upd_same] at e
      cases e
      rw [ha]
      exact .inl hH
    · rw [upd_ne ha] at e
      exact h.sub a w e
  · by_cases ha : a = p
    · rw [ha]; exact .inr h0
    · rw [upd_ne ha] at e
      exact h.new a w e
  · obtain ⟨h1, h2, h3⟩ := h.iof a e
    refine ⟨?_, h2, h3⟩
    have ne : a ≠ p := fun z => h2 (by rw [z]; exact h0)
    rw [upd_ne ne]
    exact h1
  · obtain ⟨v, e1, q⟩ := h.sl j t e
    refine ⟨v, e1, ?_⟩
    cases t with
    | dat d fr2 => exact Rp.mono (fF_mono xF) q
    | raw u => exact q
    | scr ns => exact q
    | old d => exact q
    | own o2 fr2 =>
      obtain ⟨p2, e2, e3', e4', tq2⟩ := q
      have ne : p2 ≠ p := fun z => ho ⟨j, _, e, rfl, by rw [e1, e2, z]⟩
      exact ⟨p2, e2, by rw [upd_ne ne]; exact e3', e4', tq2.mono (fF_mono xF) fun u2 k => k⟩
    | ino o2 =>
      obtain ⟨p2, e2, e3', tq2⟩ := q
      exact ⟨p2, e2, e3', tq2.mono xF fun u2 k => k⟩
  · cases fr with
    | true => show nw R.H0 (upd F p u) p = some u; rw [nw_at h0, upd_same]
    | false => exact upd_same
variable {elt tg iter : Expr} {ifs : List Expr} {scope : Scope} {own : List (Str × Nat)} {pos spos p : Pos} {x : Str} {sl : List Nat} {w : WI} {wg : WG} {wt : WT} {we : WE}
theorem pw_lc (hc : X.calm = true) (hN : X.N.Nodup) (ok : BlkOk X.N X.env.scope scope own) (hi : PWI X E tg iter w) (hg : Blk X scope fun Y => PWG Y sl tg wg) (ht : Blk X scope fun Y => PWTs Y E0 ifs wt) (he : Blk X scope fun Y => PWE Y E0 elt we) (hsl : ∀ j ∈ sl, j ∈ own.map (·.2))
    (hs : ∀ x, foldedSetIterable iter X.env x = pure x := by intro _; rfl) : PWE X E (.ListComp elt [⟨tg, iter, ifs, 0⟩] scope pos) (wLc w wg wt we (own.map (·.2))) := by
  obtain ⟨wi, pi, ki⟩ := hi
  obtain ⟨g, pg, kg⟩ := blk_g hg
  obtain ⟨tt, ptt, kt⟩ := blk_t ht
  obtain ⟨te, pte, ke⟩ := blk_e he
  refine ⟨_, pe_lc hc hN pi ok pg ptt pte hs, fun R F H σ Γ ex Q Qt gg h eq q => ?_⟩
  refine lc_run ki kg kt ke hsl gg h (fun p F' H' Γ' ds fr vals h' x' f' z' o' e' r' n' q' => ?_) q
  obtain ⟨h2, at_⟩ := h'.frz f' o' z' e'
  have xF : Ex F' (upd F' p (.lst vals)) := Ex.new f'
  refine eq _ _ H' Γ' (.lst ds) fr h2 ⟨x'.ex.trans xF, x'.keep, x'.ow, fun a u e => ?_, x'.stay⟩ (.lst (at_ fr) (r'.mono (fF_mono xF))) q'
  by_cases ha : a = p
  · rw [ha]; exact .inr (.inl n')
  · rw [upd_ne ha] at e
    exact x'.new a u e
/-- name = [..] on one line -/
theorem pws_setLc {py : Pos} (i : Nat) (hc : X.calm = true) (hN : X.N.Nodup) (ok : BlkOk X.N X.env.scope scope own) (hi : PWI X E tg iter w) (hg : Blk X scope fun Y => PWG Y sl tg wg) (ht : Blk X scope fun Y => PWTs Y E0 ifs wt) (he : Blk X scope fun Y => PWE Y E0 elt we) (hsl : ∀ j ∈ sl, j ∈ own.map (·.2))
    (hsw : swapsWith (.ListComp elt [⟨tg, iter, ifs, 0⟩] scope pos) (some (.Name x py)) spos.line X.env = pure true) (hxi : X.N[i]? = some x := by rfl) (hxl : X.env.scope.names.lookup x = some .local := by rfl)
    (hs : ∀ x, foldedSetIterable iter X.env x = pure x := by intro _; rfl) : PWS X E (.Assign [.Name x py] (.ListComp elt [⟨tg, iter, ifs, 0⟩] scope pos) spos) (wSet i (wLc w wg wt we (own.map (·.2)))) := by
  obtain ⟨wi, pi, ki⟩ := hi
  obtain ⟨g, pg, kg⟩ := blk_g hg
  obtain ⟨tt, ptt, kt⟩ := blk_t ht
  obtain ⟨te, pte, ke⟩ := blk_e he
  refine ⟨_, ps_setLc hc hN hxi hxl hsw pi ok pg ptt pte hs, fun R F H σ Γ P T gg h s q => ?_⟩
  refine lc_run ki kg kt ke hsl gg h (fun p F' H' Γ' ds fr vals h' x' f' z' o' e' r' n' q' => ?_) q
  obtain ⟨h2, at_⟩ := h'.frz f' o' z' e'
  have xF : Ex F' (upd F' p (.lst vals)) := Ex.new f'
  exact s.nx _ H' _ _ (h2.put (i := i) (s := .dat (.lst ds) fr) (show Rpf R _ fr _ _ from .lst (at_ fr) (r'.mono (fF_mono xF))) rfl) (x'.ex.trans xF) q'
/-- .. the list one's own -/
theorem pn_lc (hc : X.calm = true) (hN : X.N.Nodup) (ok : BlkOk X.N X.env.scope scope own) (hi : PWI X E tg iter w) (hg : Blk X scope fun Y => PWG Y sl tg wg) (ht : Blk X scope fun Y => PWTs Y E0 ifs wt) (he : Blk X scope fun Y => PWE Y E0 elt we) (hsl : ∀ j ∈ sl, j ∈ own.map (·.2))
    (hs : ∀ x, foldedSetIterable iter X.env x = pure x := by intro _; rfl) : PWN X E (.ListComp elt [⟨tg, iter, ifs, 0⟩] scope pos) (wLc w wg wt we (own.map (·.2))) := by
  obtain ⟨wi, pi, ki⟩ := hi
  obtain ⟨g, pg, kg⟩ := blk_g hg
  obtain ⟨tt, ptt, kt⟩ := blk_t ht
  obtain ⟨te, pte, ke⟩ := blk_e he
  refine ⟨_, pe_lc hc hN pi ok pg ptt pte hs, fun R F H σ Γ ex Q Qt gg h eq q => ?_⟩
  refine lc_run ki kg kt ke hsl gg h (fun p F' H' Γ' ds fr vals h' x' f' z' o' e' r' n' q' => ?_) q
  exact eq p F' H' Γ' (.lst ds) fr h' x' n' ⟨p, rfl, f', z', vals, e', r'⟩ o' q'
theorem pws_setLcO {py : Pos} (i : Nat) (hc : X.calm = true) (hN : X.N.Nodup) (ok : BlkOk X.N X.env.scope scope own) (hi : PWI X E tg iter w) (hg : Blk X scope fun Y => PWG Y sl tg wg) (ht : Blk X scope fun Y => PWTs Y E0 ifs wt) (he : Blk X scope fun Y => PWE Y E0 elt we) (hsl : ∀ j ∈ sl, j ∈ own.map (·.2))
    (hsw : swapsWith (.ListComp elt [⟨tg, iter, ifs, 0⟩] scope pos) (some (.Name x py)) spos.line X.env = pure true) (hxi : X.N[i]? = some x := by rfl) (hxl : X.env.scope.names.lookup x = some .local := by rfl)
    (hs : ∀ x, foldedSetIterable iter X.env x = pure x := by intro _; rfl) : PWS X E (.Assign [.Name x py] (.ListComp elt [⟨tg, iter, ifs, 0⟩] scope pos) spos) (wSetO i (wLc w wg wt we (own.map (·.2)))) := by
  obtain ⟨wi, pi, ki⟩ := hi
  obtain ⟨g, pg, kg⟩ := blk_g hg
  obtain ⟨tt, ptt, kt⟩ := blk_t ht
  obtain ⟨te, pte, ke⟩ := blk_e he
  refine ⟨_, ps_setLc hc hN hxi hxl hsw pi ok pg ptt pte hs, fun R F H σ Γ P T gg h s q => ?_⟩
  refine lc_run ki kg kt ke hsl gg h (fun p F' H' Γ' ds fr vals h' x' f' z' o' e' r' n' q' => ?_) q
  exact s.nx _ H' _ _ (h'.putOwn (i := i) (o := .lst ds) (fr := fr) ⟨p, rfl, f', z', vals, e', r'⟩ o') x'.ex q'
end
end Y

/-! Y: part 11: a def's promise from its pure law; calls that change their first argument. -/
namespace Y
open PySem PySem.Spec PyProof.Rows L2

def startD (N : List Str) (ds : List D) : En := ds.map (fun d => some (.dat d false)) ++ List.replicate (N.length - ds.length) none
theorem gt_get : ∀ {Γ : En} {i : Nat} {s : Sl}, gt Γ i = some s → Γ[i]? = some (some s)
  | [], _, _, h => by cases h
  | a :: r, 0, s, h => by
    have h' : a = some s := h
    rw [h']; rfl
  | a :: r, n + 1, s, h => by
    have h' : gt r n = some s := h
    rw [List.getElem?_cons_succ]
    exact gt_get h'
theorem startD_get {N : List Str} {ds : List D} {i : Nat} {s : Sl} (h : gt (startD N ds) i = some s) : ∃ d, ds[i]? = some d ∧ s = .dat d false := by
  have e := gt_get h
  unfold startD at e
  by_cases hi : i < ds.length
  · rw [List.getElem?_append_left (by simpa using hi), List.getElem?_map] at e
    cases q : ds[i]? with
    | none => rw [q] at e; cases e
    | some d =>
      rw [q] at e
      have e' := Option.some.inj (Option.some.inj e)
      exact ⟨d, rfl, e'.symm⟩
  · rw [List.getElem?_append_right (by simpa using hi), List.getElem?_replicate] at e
    split at e <;> cases e
theorem start_get {N : List Str} {vs : List V} {i : Nat} {v : V} (h : vs[i]? = some v) : (L2.start N vs)[i]? = some (some v) := by
  obtain ⟨hi, _⟩ := List.getElem?_eq_some_iff.mp h
  unfold L2.start
  rw [List.getElem?_append_left (by simpa using hi), List.getElem?_map, h]
  rfl
/-- the state at a def's entry -/
theorem Hd.start0 {K : PySem.W.Frag} {H F : Hp} {N : List Str} {vs : List V} {ds : List D} (sub : ∀ a u, F a = some u → RdD H a u) (r : RpAll F vs ds) : Hd ⟨K, H, F, none⟩ F H (L2.start N vs) (startD N ds) where
  sub := sub
  base := fun a o e _ => e
  f0 := fun a u e => e
  new := fun a u e => .inl e
  iof := fun a e => by cases e
  len := by
    have l := r.length
    unfold startD L2.start
    rw [List.length_append, List.length_map, List.length_replicate, List.length_append, List.length_map, List.length_replicate, l]
  sl := fun i s e => by
    obtain ⟨d, e1, e2⟩ := startD_get e
    subst e2
    obtain ⟨v, e3, rv⟩ := r.get e1
    exact ⟨v, start_get e3, rv⟩
  sep := fun i j s t p e1 e2 o1 o2 p1 p2 => by
    obtain ⟨d, _, e⟩ := startD_get e1
    subst e
    cases o1

section
variable {P : Program} {w : World} {K : PySem.W.Frag} {mg : Str → Option Value} {base : Heap} {k : Nat} {f : Addr} {x qual : Str} {params : Arguments} {body : List Stmt} {scope : Scope} {fd : FuncData} {N ps : List Str}
/-- a body's context -/
abbrev bX (P : Program) (w : World) (K : PySem.W.Frag) (mg : Str → Option Value) (base : Heap) (N : List Str) (qual : Str) (scope : Scope) (f : Addr) (cdv : Value) (A : Around) (outer : List Env) (s : Shared) (H : Hp) (E : XK) : Cx :=
  cxOf (L2.CX P w) P w K mg base N qual scope f cdv A outer s H E
theorem pass_fn {cdv : Value} {A : Around} {outer : List Env} {s : Shared} {H : Hp} {E : XK} : Passes (L2.CX P w) (bX P w K mg base N qual scope f cdv A outer s H E) E :=
  passes_call (W := fun cls d _ H => E cls d H) (takes_of (E := E) rfl rfl rfl rfl) fun _ _ _ _ h => h
theorem own_fn {cdv : Value} {A : Around} {outer : List Env} {s : Shared} {H : Hp} {E : XK} : PassesOwn (model P w) (A.deeper (envOfC qual scope s.heap.objs.size f cdv)) (envOfC qual scope s.heap.objs.size f cdv) (bX P w K mg base N qual scope f cdv A outer s H E).xe := PassesOwn.leaving
theorem pass0 {X : Cx} : Passes (L2.CX X.prog X.w) X E0 := fun _ _ _ _ _ _ _ h => by
  obtain ⟨a, B, H', cls, d, e1, e2, e3, e4, e5, e6, e7, e8⟩ := h
  exact e8.elim
/-- a def's promise by data -/
theorem fn_pure {fs : FS} {wb : WS} (Fd : FunD K x qual params body scope [] [] f fd) (S : FnScope N ps scope) (len : ∀ ds Q ex, fs ds Q ex → ds.length = ps.length)
    (hb : ∀ (cdv : Value) (A : Around) (outer : List Env) (s : Shared) (H : Hp) (E : XK), (A.deeper (envOfC qual scope s.heap.objs.size f cdv)).guards = some [] → Room k (A.deeper (envOfC qual scope s.heap.objs.size f cdv)) →
      PWSs (bX P w K mg base N qual scope f cdv A outer s H E) E body wb)
    (pure : ∀ ds Q ex, fs ds Q ex → wb { nx := fun _ => Q .non true, rt := fun d fr _ => Q d fr, xe := ex } (startD N ds)) : FnG P w K mg base (k + 1) f fd ps (spF mg fs) := by
  refine fnG_of Fd S (fun vs H Q E h => ?_) fun cdv A outer s H vs Q E hg hr h => ?_
  · obtain ⟨F, ds, Qd, ex, sub, r, hf, _⟩ := h
    rw [r.length]
    exact len _ _ _ hf
  · obtain ⟨F, ds, Qd, ex, sub, r, hf, hq, he⟩ := h
    obtain ⟨t, pt, kt⟩ := hb cdv A outer s H E hg hr
    refine ⟨t, pt, kt ⟨K, H, F, none⟩ F H (L2.start N vs) (startD N ds) { nx := fun _ => Qd .non true, rt := fun d fr _ => Qd d fr, xe := ex } _ ⟨rfl, ?_⟩ (Hd.start0 sub r) ?_ (pure ds Qd ex hf)⟩
    · exact fun c C dd v d F' H' hm hex hb xF sub rv hdd => he c C dd v d F' H' hm hex (fun a o e => hb a o e (fun z => by cases z)) xF sub rv hdd
    · have main : ∀ v F' H' σ' Γ' d fr, Hd ⟨K, H, F, none⟩ F' H' σ' Γ' → Rpf ⟨K, H, F, none⟩ F' fr v d → Qd d fr → Q v H' := fun v F' H' σ' Γ' d fr h' r' q =>
        hq v F' H' d fr (fun a o e => h'.base a o e (fun z => by cases z)) h'.f0 h'.sub h'.new (by cases fr <;> exact r') q
      exact ⟨fun F' H' σ' Γ' h' x q => main .non F' H' σ' Γ' .non true h' .non q, fun v F' H' σ' Γ' d fr h' x r' q => main v F' H' σ' Γ' d fr h' r' q, fun _ _ _ _ _ _ z => z.elim, fun _ _ _ _ _ _ z => z.elim⟩
end

/-! ### calls that change their first argument, a list of flat things -/
theorem flt_all {F F' : Hp} : ∀ {vs : List V} {ds : List D}, ds.all flt = true → RpAll F vs ds → RpAll F' vs ds
  | _, _, _, .nil => .nil
  | _, _, h, .cons a r => by
    rw [List.all_cons, Bool.and_eq_true] at h
    exact .cons (flt_rp h.1 a) (flt_all h.2 r)
abbrev H00 : Hp := fun _ => none
/-- the list's content, the other arguments, what is wanted of: its new content, the value -/
abbrev FSM := List D → List D → (List D → D → Bool → Prop) → Prop
def spM (fs : FSM) : Sp := fun vs H Qv _ => ∃ (p : Addr) (us : List V) (vr : List V) (F : Hp) (os ds : List D) (Q : List D → D → Bool → Prop), vs = .ref p :: vr ∧ H p = some (.lst us) ∧ F p = none ∧ RpAll H00 us os ∧ (∀ a u, F a = some u → RdD H a u) ∧ RpAll F vr ds ∧ fs os ds Q ∧
  ∀ v F' H' d fr us' os', (∀ a o, H a = some o → a ≠ p → H' a = some o) → Ex F F' → (∀ a u, F' a = some u → RdD H' a u) → (∀ a u, F' a = some u → F a = some u ∨ H a = none) → F' p = none → H' p = some (.lst us') → RpAll H00 us' os' →
    Rp (match fr with | true => nw H F' | false => F') v d → Q os' d fr → Qv v H'
def startM (N : List Str) (os ds : List D) : En := some (.ino (.lst os)) :: (ds.map (fun d => some (.dat d false)) ++ List.replicate (N.length - 1 - ds.length) none)
theorem startM_get {N : List Str} {os ds : List D} {i : Nat} {s : Sl} (h : gt (startM N os ds) i = some s) : (i = 0 ∧ s = .ino (.lst os)) ∨ ∃ j d, i = j + 1 ∧ ds[j]? = some d ∧ s = .dat d false := by
  cases i with
  | zero =>
    have h' : some (Sl.ino (.lst os)) = some s := h
    exact .inl ⟨rfl, (Option.some.inj h').symm⟩
  | succ j =>
    have h' : gt (ds.map (fun d => some (.dat d false)) ++ List.replicate (N.length - 1 - ds.length) none) j = some s := h
    have e := gt_get h'
    by_cases hi : j < ds.length
    · rw [List.getElem?_append_left (by simpa using hi), List.getElem?_map] at e
      cases q : ds[j]? with
      | none => rw [q] at e; cases e
      | some d =>
        rw [q] at e
        have e' := Option.some.inj (Option.some.inj e)
        exact .inr ⟨j, d, rfl, q, e'.symm⟩
    · rw [List.getElem?_append_right (by simpa using hi), List.getElem?_replicate] at e
      split at e <;> cases e
theorem Hd.startI {K : PySem.W.Frag} {H F : Hp} {N : List Str} {p : Addr} {us vr : List V} {os ds : List D} (hp : H p = some (.lst us)) (fp : F p = none) (ro : RpAll H00 us os) (sub : ∀ a u, F a = some u → RdD H a u) (r : RpAll F vr ds) :
    Hd ⟨K, H, F, some p⟩ F H (L2.start N (.ref p :: vr)) (startM N os ds) where
  sub := sub
  base := fun a o e _ => e
  f0 := fun a u e => e
  new := fun a u e => .inl e
  iof := fun a e => by
    cases e
    refine ⟨fp, ?_, ?_⟩
    · show H p ≠ none
      rw [hp]; simp
    · rw [hp]; simp
  len := by
    have l := r.length
    unfold startM L2.start
    simp [l]
    omega
  sl := fun i s e => by
    rcases startM_get e with ⟨e1, e2⟩ | ⟨j, d, e1, e2, e3⟩
    · subst e1
      subst e2
      exact ⟨.ref p, rfl, p, rfl, rfl, us, hp, ro.mono fun _ _ z => by cases z⟩
    · subst e1
      subst e3
      obtain ⟨v, e3, rv⟩ := r.get e2
      exact ⟨v, start_get (by rw [List.getElem?_cons_succ]; exact e3), rv⟩
  sep := fun i j s t q e1 e2 o1 o2 p1 p2 => by
    rcases startM_get e1 with ⟨z1, _⟩ | ⟨_, _, _, _, z⟩
    · rcases startM_get e2 with ⟨z2, _⟩ | ⟨_, _, _, _, z⟩
      · rw [z1, z2]
      · subst z; cases o2
    · subst z; cases o1
/-- the content of the list of slot i, flat -/
@[reducible] def inoQ (Γ : En) (Q : List D → Prop) : Prop := match gt Γ 0 with
  | some (.ino (.lst os)) => os.all flt = true ∧ Q os
  | _ => False
section
variable {P : Program} {w : World} {K : PySem.W.Frag} {mg : Str → Option Value} {base : Heap} {k : Nat} {f : Addr} {x qual : Str} {params : Arguments} {body : List Stmt} {scope : Scope} {fd : FuncData} {N ps : List Str}
theorem fn_pureM {fs : FSM} {wb : WS} (Fd : FunD K x qual params body scope [] [] f fd) (S : FnScope N ps scope) (len : ∀ os ds Q, fs os ds Q → ds.length + 1 = ps.length)
    (hb : ∀ (cdv : Value) (A : Around) (outer : List Env) (s : Shared) (H : Hp) (E : XK), (A.deeper (envOfC qual scope s.heap.objs.size f cdv)).guards = some [] → Room k (A.deeper (envOfC qual scope s.heap.objs.size f cdv)) →
      PWSs (bX P w K mg base N qual scope f cdv A outer s H E) E body wb)
    (pure : ∀ os ds Q, fs os ds Q → wb { nx := fun Γ => inoQ Γ fun o => Q o .non true, rt := fun d fr Γ => inoQ Γ fun o => Q o d fr } (startM N os ds)) : FnG P w K mg base (k + 1) f fd ps (spM fs) := by
  refine fnG_of Fd S (fun vs H Q E h => ?_) fun cdv A outer s H vs Q E hg hr h => ?_
  · obtain ⟨p, us, vr, F, os, ds, Qd, e, _, _, _, _, r, hf, _⟩ := h
    subst e
    rw [← len _ _ _ hf, List.length_cons, r.length]
  · obtain ⟨p, us, vr, F, os, ds, Qd, e, hp, fp, ro, sub, r, hf, hq⟩ := h
    subst e
    obtain ⟨t, pt, kt⟩ := hb cdv A outer s H E hg hr
    refine ⟨t, pt, kt ⟨K, H, F, some p⟩ F H (L2.start N (.ref p :: vr)) (startM N os ds) { nx := fun Γ => inoQ Γ fun o => Qd o .non true, rt := fun d fr Γ => inoQ Γ fun o => Qd o d fr } _ ⟨rfl, fun _ _ _ _ _ _ _ _ h => h.elim⟩ (Hd.startI hp fp ro sub r) ?_ (pure os ds Qd hf)⟩
    have main : ∀ v F' H' σ' Γ' d fr, Hd ⟨K, H, F, some p⟩ F' H' σ' Γ' → Rpf ⟨K, H, F, some p⟩ F' fr v d → (inoQ Γ' fun o => Qd o d fr) → Q v H' := fun v F' H' σ' Γ' d fr h' r' q => by
      unfold inoQ at q
      cases g0 : gt Γ' 0 with
      | none => simp only [g0] at q
      | some s =>
        cases s with
        | ino o =>
          cases o with
          | lst os' =>
            simp only [g0] at q
            obtain ⟨v2, _, p2, _, e3, us', e4, r4⟩ := h'.sl 0 _ g0
            have e5 : p2 = p := by
              have e3' : (some p : Option Addr) = some p2 := e3
              exact (Option.some.inj e3').symm
            subst e5
            exact hq v F' H' d fr us' os' (fun a o e n => h'.base a o e (fun z => n (Option.some.inj z).symm)) h'.f0 h'.sub h'.new (h'.iof p2 rfl).1 e4 (flt_all q.1 r4) (by cases fr <;> exact r') q.2
          | _ => simp only [g0] at q
        | _ => simp only [g0] at q
    exact ⟨fun F' H' σ' Γ' h' x q => main .non F' H' σ' Γ' .non true h' .non q, fun v F' H' σ' Γ' d fr h' x r' q => main v F' H' σ' Γ' d fr h' r' q, fun _ _ _ _ _ _ z => z.elim, fun _ _ _ _ _ _ z => z.elim⟩
end
section
variable {X : Cx} {E : XK} {e a b c : Expr} {es : List Expr} {pos p : Pos} {x : Str}
/-- f(x, ..): x's list is changed -/
@[reducible] def wCallM (i : Nat) (fs : FSM) (wr : WA) : WE := fun ex Γ Q => hasL Γ i ∧ wr ex Γ fun ds Γ1 => match ownAt Γ1 i with
  | some (.lst os, _) => os.all flt = true ∧ fs os (ds.map (·.1)) fun os' d fr => Q d fr (ownTo Γ1 i (.lst os') true)
  | _ => False
theorem upd_self {H : Hp} {p : Addr} {o : HO} (h : H p = some o) : upd H p o = H := by
  funext a
  by_cases ha : a = p
  · rw [ha, upd_same, h]
  · rw [upd_ne ha]
theorem ok_callM {i : Nat} {fs : FSM} {wr : WA} {t : TA} (kt : SA X E t wr) : SE X E (tCall (spM fs) [] E (tCons (tVar i) t)) (wCallM i fs wr) := by
  intro R F H σ Γ ex Q Qt g h eq w
  obtain ⟨hl, w⟩ := w
  obtain ⟨p, vs, ds, f, _, s, e1, _⟩ := hl.get h
  refine ⟨.ref p, s.at_, ?_⟩
  refine kt R F H σ Γ ex _ _ g h (fun vs F1 H1 Γ1 ds h1 x1 r1 w1 => ?_) w
  cases q : ownAt Γ1 i with
  | none => simp only [q] at w1
  | some z =>
    obtain ⟨d2, f2⟩ := z
    cases d2 with
    | lst os =>
      simp only [q] at w1
      obtain ⟨hf, w1⟩ := w1
      obtain ⟨p2, s2⟩ := own_st h1 q
      obtain ⟨us, e2, r2⟩ := s2.top
      have ep : p2 = p := by
        have z1 := s.at_
        rw [s2.at_] at z1
        cases z1
        rfl
      subst ep
      show spM fs ((.ref p2 :: vs) ++ []) H1 Qt E
      rw [List.append_nil]
      refine ⟨p2, us, vs, F1, os, ds.map (·.1), _, rfl, e2, s2.fn, flt_all hf r2, h1.sub, r1.plain, w1, fun v F2 H2 d fr us' os' kp xF sub new fp hp ro r q' => ?_⟩
      -- the heap with the list as it was
      have xH : Ex H1 (upd H2 p2 (.lst us)) := fun a o e => by
        by_cases ha : a = p2
        · rw [ha, upd_same, ← e2, ← ha, e]
        · rw [upd_ne ha]
          exact kp a o e ha
      have sub2 : ∀ a u, F2 a = some u → RdD (upd H2 p2 (.lst us)) a u := fun a u e => by
        have ne : a ≠ p2 := fun z => by rw [z, fp] at e; cases e
        rcases sub a u e with y | ⟨y, o, y2⟩
        · exact .inl (by rw [upd_ne ne]; exact y)
        · exact .inr ⟨y, o, by rw [upd_ne ne]; exact y2⟩
      obtain ⟨h3, r3⟩ := h1.called xH xF sub2 new r
      obtain ⟨p3, s3⟩ := own_st h3 q
      have ep : p3 = p2 := by
        have z1 := s2.at_
        rw [s3.at_] at z1
        cases z1
        rfl
      subst ep
      have t : TopH (fF R F2 true) (upd (upd H2 p3 (.lst us)) p3 (.lst us')) p3 (.lst os') := ⟨_, upd_same, ro.mono fun _ _ z => by cases z⟩
      have h4 := (s3.to_ _ _ _ t).1
      have n4 := s3.nx t
      rw [upd_upd, upd_self hp] at h4 n4
      exact eq v F2 H2 _ d fr h4 ((x1.trans (.grow xF xH new)).trans n4) r3 q'
    | _ => simp only [q] at w1
theorem pw_callM {k : Nat} {f : Addr} {fd : FuncData} {ps : List Str} {fs : FSM} {wr : WA} {y : Str} {py : Pos} (i : Nat) (Fn : FnG X.prog X.w X.K X.mg X.base k f fd ps (spM fs)) (hgd : X.A.guards = some []) (hr : Room k X.A) (hm : X.mg x = some (.ref f)) (hk : PySem.W.keepIn X.K (.ref f) = true) (hb : Binds X.K fd ps [])
    (hx : Passes (L2.CX X.prog X.w) X E) (ha : PWA X E es wr) (hN : X.N[i]? = some y := by rfl) (hv : Vis X.env.scope y := by first | exact Or.inl rfl | exact Or.inr (Or.inl rfl) | exact Or.inr (Or.inr rfl)) (hd : (y == ("__debug__" : Str)) = false := by decide) (hcd : (y == ("__classdict__" : Str)) = false := by decide)
    (hg : Gl X x := by rfl) (hdb : (x == ("__debug__" : Str)) = false := by decide) (he : starEach (.Name y py :: es) X.env = (false, eval (.Name y py) X.env) :: starEach es X.env := by rfl) (hpl : (backTo pos (starEach es X.env)).any (·.1) = false := by rfl) :
    PWE X E (.Call (.Name x p) (.Name y py :: es) [] pos) (wCallM i fs wr) := by
  obtain ⟨t, pt, kt⟩ := ha
  exact ⟨_, pe_fnG Fn hgd hr hm hk hb hx (pa_cons (pe_var hN hv hd hcd) pt he) hg hdb he hpl, ok_callM kt⟩
end
end Y

/-! Y: part 12: dicts: stores, displays, comprehensions. -/
namespace Y
open PySem PySem.Spec PyProof.Rows L2

/-! ### stores -/
theorem rpK_any {F : Hp} {k : Key} : ∀ {vs : List (Key × V)} {ds : List (Key × D)}, RpK F vs ds → (vs.any fun kv => decide (kv.1 = k)) = (ds.any fun kv => decide (kv.1 = k))
  | _, _, .nil => rfl
  | _, _, .cons _ r => by rw [List.any_cons, List.any_cons, rpK_any r]
theorem rpT_any {F : Hp} {k : List Key} : ∀ {vs : List (List Key × V)} {ds : List (List Key × D)}, RpT F vs ds → (vs.any fun kv => decide (kv.1 = k)) = (ds.any fun kv => decide (kv.1 = k))
  | _, _, .nil => rfl
  | _, _, .cons _ r => by rw [List.any_cons, List.any_cons, rpT_any r]
theorem rpK_map {F : Hp} {k : Key} {v : V} {d : D} (h : Rp F v d) : ∀ {vs : List (Key × V)} {ds : List (Key × D)}, RpK F vs ds → RpK F (vs.map fun kv => if kv.1 = k then (kv.1, v) else kv) (ds.map fun kv => if kv.1 = k then (kv.1, d) else kv)
  | _, _, .nil => .nil
  | _, _, .cons (k := j) a r => by
    rw [List.map_cons, List.map_cons]
    by_cases e : j = k
    · rw [if_pos (show (j, _).1 = k from e), if_pos (show (j, _).1 = k from e)]
      exact .cons h (rpK_map h r)
    · rw [if_neg (show ¬ (j, _).1 = k from e), if_neg (show ¬ (j, _).1 = k from e)]
      exact .cons a (rpK_map h r)
theorem rpT_map {F : Hp} {k : List Key} {v : V} {d : D} (h : Rp F v d) : ∀ {vs : List (List Key × V)} {ds : List (List Key × D)}, RpT F vs ds → RpT F (vs.map fun kv => if kv.1 = k then (kv.1, v) else kv) (ds.map fun kv => if kv.1 = k then (kv.1, d) else kv)
  | _, _, .nil => .nil
  | _, _, .cons (k := j) a r => by
    rw [List.map_cons, List.map_cons]
    by_cases e : j = k
    · rw [if_pos (show (j, _).1 = k from e), if_pos (show (j, _).1 = k from e)]
      exact .cons h (rpT_map h r)
    · rw [if_neg (show ¬ (j, _).1 = k from e), if_neg (show ¬ (j, _).1 = k from e)]
      exact .cons a (rpT_map h r)
theorem rpK_app {F : Hp} : ∀ {vs ws : List (Key × V)} {ds es : List (Key × D)}, RpK F vs ds → RpK F ws es → RpK F (vs ++ ws) (ds ++ es)
  | _, _, _, _, .nil, h => h
  | _, _, _, _, .cons a r, h => .cons a (rpK_app r h)
theorem rpT_app {F : Hp} : ∀ {vs ws : List (List Key × V)} {ds es : List (List Key × D)}, RpT F vs ds → RpT F ws es → RpT F (vs ++ ws) (ds ++ es)
  | _, _, _, _, .nil, h => h
  | _, _, _, _, .cons a r, h => .cons a (rpT_app r h)
theorem rpK_put {F : Hp} {k : Key} {v : V} {d : D} {vs : List (Key × V)} {ds : List (Key × D)} (r : RpK F vs ds) (h : Rp F v d) : RpK F (putK vs k v) (putD ds k d) := by
  unfold putK putD
  rw [rpK_any r]
  split
  · exact rpK_map h r
  · exact rpK_app r (.cons h .nil)
theorem rpT_put {F : Hp} {k : List Key} {v : V} {d : D} {vs : List (List Key × V)} {ds : List (List Key × D)} (r : RpT F vs ds) (h : Rp F v d) : RpT F (putK vs k v) (putD ds k d) := by
  unfold putK putD
  rw [rpT_any r]
  split
  · exact rpT_map h r
  · exact rpT_app r (.cons h .nil)
theorem rpT_length {F : Hp} : ∀ {vs : List (List Key × V)} {ds : List (List Key × D)}, RpT F vs ds → vs.length = ds.length
  | _, _, .nil => rfl
  | _, _, .cons _ r => congrArg (· + 1) (rpT_length r)
@[reducible] def kPut (o y d : D) (Q : D → Prop) : Prop := match o with
  | .lst ds => (match y with
    | .int k => (match ixN ds.length k with
      | some j => Q (.lst (ds.set j d))
      | none => False)
    | _ => False)
  | .dk kvs => (match keyOf y with
    | some k => kvs.length < sizeLine ∧ Q (.dk (putD kvs k d))
    | none => False)
  | .dt kvs => (match y with
    | .tup ks => (match keysOf ks with
      | some k => kvs.length < sizeLine ∧ Q (.dt (putD kvs k d))
      | none => False)
    | _ => False)
  | _ => False
def rSetAll : TSet := fun o i v H Q => rSetL o i v H Q ∨ rSetD o i v H Q
section
variable {X : Cx} {E : XK} {e a b c : Expr} {es : List Expr} {pos p : Pos} {x : Str} {wa wb wc : WE} {va vb : WV}
theorem set_all (hu : X.A.units + 1 < cLine) : PSet X rSetAll := by
  intro pins s σ H o i v ov iv u Q I ro ri rv h
  rcases h with h | h
  · exact set_list pins s σ H o i v ov iv u Q I ro ri rv h
  · exact set_dict hu pins s σ H o i v ov iv u Q I ro ri rv h
def keyD (d : D) (f : Bool) : Bool := true
theorem rpb {R : Rl} {F : Hp} {f fr : Bool} {v : V} {d : D} (rv : Rpf R F fr v d) : Rpf R F (f && fr) v d := by
  cases f with
  | true => exact rv
  | false => exact rv.mono fF_ex
theorem ex_and {R : Rl} {F : Hp} {f fr : Bool} : Ex (fF R F f) (fF R F (f && fr)) := by
  cases f with
  | true => cases fr with
    | true => exact Ex.refl _
    | false => exact nw_ex
  | false => exact Ex.refl _
/-- the store into a thing of one's own: what the heap does -/
theorem put_core {R : Rl} {F H : Hp} {σ : L2.St} {Γ : En} {i : Nat} {o : D} {f : Bool} {p : Addr} (h : Hd R F H σ Γ) (s : OwnSt R F H σ Γ i o f p) {v y : V} {d dy : D} {fr fy : Bool} (rv : Rpf R F fr v d) (ry : Rpf R F fy y dy) {Q : D → Prop} (k : kPut o dy d Q) :
    ∃ u o', rSetAll (.ref p) y v H (fun H' => H' = upd H p u) ∧ TopH (fF R F (f && fr)) (upd H p u) p o' ∧ Q o' := by
  cases o with
  | lst ds => cases dy with
    | int n =>
      unfold kPut at k
      cases q2 : ixN ds.length n with
      | none => simp only [q2] at k
      | some j =>
        simp only [q2] at k
        obtain ⟨vs, e, r⟩ := s.top
        obtain ⟨ra, rb⟩ := rp_both r rv
        exact ⟨.lst (vs.set j v), .lst (ds.set j d), .inl ⟨p, vs, n, j, rfl, rp_int ry, e, by rw [r.length]; exact q2, rfl⟩, ⟨_, upd_same, ra.set rb j⟩, k⟩
    | _ => exact k.elim
  | dk kvs =>
    unfold kPut at k
    cases q : keyOf dy with
    | none => simp only [q] at k
    | some ky =>
      simp only [q] at k
      obtain ⟨vs, e, r⟩ := s.top
      have ey := keyOf_rp q ry
      subst ey
      exact ⟨.dK (putK vs ky v), .dk (putD kvs ky d), .inr ⟨p, _, rfl, .k e (by rw [rpK_length r]; exact k.1), rfl⟩, ⟨_, upd_same, rpK_put (r.mono ex_and) (rpb rv)⟩, k.2⟩
  | dt kvs => cases dy with
    | tup ks =>
      unfold kPut at k
      cases q : keysOf ks with
      | none => simp only [q] at k
      | some ky =>
        simp only [q] at k
        obtain ⟨vs, e, r⟩ := s.top
        have hy : ∃ b ws, y = .ref b ∧ H b = some (.tup ws) ∧ RpAll (fF R F fy) ws ks := by
          cases ry with
          | tup e r => exact ⟨_, _, rfl, RdD.tup (h.sub _ _ (fF_ex _ _ e)), r⟩
        obtain ⟨b, ws, e4, e5, rk⟩ := hy
        have ew := keysOf_rp q rk
        subst ew
        subst e4
        exact ⟨.dT (putK vs ky v), .dt (putD kvs ky d), .inr ⟨p, _, rfl, .t e e5 (by rw [rpT_length r]; exact k.1), rfl⟩, ⟨_, upd_same, rpT_put (r.mono ex_and) (rpb rv)⟩, k.2⟩
    | _ => exact k.elim
  | _ => exact k.elim
theorem rSetAll.mono {o i v : V} {H : Hp} {Q Q' : Hp → Prop} (h : rSetAll o i v H Q) (k : ∀ H', Q H' → Q' H') : rSetAll o i v H Q' := by
  rcases h with ⟨p, xs, n, j, h1, h2, h3, h4, q⟩ | ⟨a, H', h1, h2, q⟩
  · exact .inl ⟨p, xs, n, j, h1, h2, h3, h4, k _ q⟩
  · exact .inr ⟨a, H', h1, h2, k _ q⟩
/-- x[k] = e -/
@[reducible] def wPut (i : Nat) (wi we : WE) : WS := fun P Γ => we P.xe Γ fun d fr Γ1 => (∃ o, ownAt Γ1 i = some o) ∧ wi P.xe Γ1 fun y _ Γ2 => match ownAt Γ2 i with
  | some (o, f) => kPut o y d fun o' => P.nx (ownTo Γ2 i o' (f && fr))
  | _ => False
theorem pws_put (i : Nat) {py : Pos} (hu : X.A.units + 1 < cLine) (he : PWE X E e wa) (hk : PWE X E b wb) (hN : X.N[i]? = some x := by rfl) (hv : Vis X.env.scope x := by first | exact Or.inl rfl | exact Or.inr (Or.inl rfl) | exact Or.inr (Or.inr rfl)) (hd : (x == ("__debug__" : Str)) = false := by decide) (hcd : (x == ("__classdict__" : Str)) = false := by decide)
    (ha : ∀ v, assign (.Subscript (.Name x p) b py) X.env v = (do
      let ov ← holding [v] (eval (.Name x p) X.env)
      let iv ← holding [v, ov] (eval b X.env)
      standAt py
      holding [v, ov, iv] (setItem ov iv v)
      release [v, ov, iv] []) := by intro _; rfl)
    (hs : swapsWithSole [.Subscript (.Name x p) b py] e pos.line X.env = pure false := by rfl) (hw : swappedStores [.Subscript (.Name x p) b py] e X.env = pure none := by rfl)
    (h1 : (assignEach [.Subscript (.Name x p) b py] X.env).map (·.2) = [assign (.Subscript (.Name x p) b py) X.env] := by rfl) :
    PWS X E (.Assign [.Subscript (.Name x p) b py] e pos) (wPut i wb wa) := by
  obtain ⟨t, pt, kt⟩ := he
  obtain ⟨u, pu, ku⟩ := hk
  refine ⟨_, ps_asg pt (pg_sub (pe_var hN hv hd hcd) pu (set_all hu) ha) hs hw h1, fun R F H σ Γ P T g h s w => ?_⟩
  refine kt R F H σ Γ P.xe _ _ g h (fun v F1 H1 Γ1 d fr h1 x1 r1 w1 => ?_) w
  obtain ⟨⟨o, q0⟩, w1⟩ := w1
  obtain ⟨p1, s1⟩ := own_st (o := o.1) (fr := o.2) h1 q0
  refine ⟨.ref p1, s1.at_, ?_⟩
  refine ku R F1 H1 σ Γ1 P.xe _ _ g h1 (fun y F2 H2 Γ2 dy fy h2 x2 r2 w2 => ?_) w1
  cases q : ownAt Γ2 i with
  | none => simp only [q] at w2
  | some z =>
    obtain ⟨d2, f2⟩ := z
    simp only [q] at w2
    obtain ⟨p2, s2⟩ := own_st h2 q
    have ep : p2 = p1 := by
      have z1 := s1.at_
      rw [s2.at_] at z1
      cases z1
      rfl
    subst ep
    obtain ⟨u, o', hr, t, q3⟩ := put_core h2 s2 (r1.mono (fF_mono x2.ex)) r2 w2
    refine hr.mono fun H' e => ?_
    subst e
    exact s.nx F2 _ _ _ (s2.to_ _ _ _ t).1 (x1.trans x2).ex q3

/-! ### {k: v} -/
@[reducible] def wDisp1 (wk wv : WE) : WE := fun ex Γ Q => wk ex Γ fun y _ Γ1 => wv ex Γ1 fun d fr Γ2 => match keyOf y with
  | some k => Q (.dk [(k, d)]) fr Γ2
  | none => False
theorem pn_disp1 (ha : PWE X E a wa) (hb : PWE X E b wb) : PWN X E (.Dict [some a] [b] pos) (wDisp1 wa wb) := by
  obtain ⟨t, pt, kt⟩ := ha
  obtain ⟨u, pu, ku⟩ := hb
  refine ⟨_, pe_disp (pps_cons pt pu pps_nil) rfl rfl (by simp) (Nat.succ_le_succ (Nat.zero_le _)), fun R F H σ Γ ex Q Qt g h eq w => ?_⟩
  intro p hp
  obtain ⟨h0, f0, z0, n0⟩ := h.newO (o := .dK []) hp
  refine kt R F _ σ Γ ex _ _ g h0 (fun y F1 H1 Γ1 dy fy h1 x1 r1 w1 => ku R F1 H1 σ Γ1 ex _ _ g h1 (fun v F2 H2 Γ2 d fr h2 x2 r2 w2 => ?_) w1) w
  have x12 := x1.trans x2
  have e2 : H2 p = some (.dK []) := x12.keep p _ upd_same n0
  have n2 : ¬ Ow σ Γ2 p := fun z => n0 (x12.ow p z)
  have f2 : F2 p = none := by
    cases z : F2 p with
    | none => rfl
    | some u =>
      rcases x12.new p u z with q | q | q
      · rw [f0] at q; cases q
      · rw [upd_same] at q; cases q
      · exact absurd q n0
  cases q : keyOf dy with
  | none => simp only [q] at w2
  | some k =>
    simp only [q] at w2
    have ey := keyOf_rp q r1
    subst ey
    refine ⟨e2, [(k, v)], rfl, Nat.succ_le_succ (Nat.zero_le _), ?_⟩
    refine eq p F2 _ Γ2 (.dk _) fr (h2.poke f2 n2 z0) (Nx.poke ((Nx.refl.newO hp).trans x12) hp) hp ⟨p, rfl, f2, z0, _, upd_same, ?_⟩ n2 w2
    exact .cons r2 .nil

/-! ### {k: v for ..} -/
@[reducible] def dcGo (tg : WG) (tt : WT) (tk te : WE) (vs : List Nat) (dp : Dep) : List (D × Bool) → List (Key × D) → Bool → En → (List (Key × D) → Bool → En → Prop) → Prop
  | [], acc, f, Γ, K => depE Γ dp ∧ K acc f Γ
  | x :: xs, acc, f, Γ, K => depE Γ dp ∧ tg x.1 x.2 (wp Γ vs) fun Γ1 => tt ex0 Γ1 fun b Γ2 => ifB b (tk ex0 Γ2 fun y _ Γ3 => te ex0 Γ3 fun d fr Γ4 => (match keyOf y with
      | some k => dcGo tg tt tk te vs dp xs (putD acc k d) (f && fr) (rs Γ Γ4 vs) K
      | none => False)) (dcGo tg tt tk te vs dp xs acc f (rs Γ Γ2 vs) K)
@[reducible] def wDc (wi : WI) (tg : WG) (tt : WT) (tk te : WE) (vs : List Nat) : WE := fun ex Γ Q => wi ex Γ fun items dp Γ1 => items.length ≤ sizeLine ∧ dcGo tg tt tk te vs dp items [] true Γ1 fun ds f Γ2 => Q (.dk ds) f Γ2
theorem dc_run {wi : TI} {g : TG} {tt : TT} {tk te : TE} {w : WI} {wg : WG} {wt : WT} {wk we : WE} {vs sl : List Nat} (ki : SI X E wi w) (kg : SG X sl g wg) (kt : ST X E0 tt wt) (kk : SE X E0 tk wk) (ke : SE X E0 te we) (hsl : ∀ j ∈ sl, j ∈ vs)
    {R : Rl} {F H : Hp} {σ : L2.St} {Γ : En} {ex : EX} {Q : D → Bool → En → Prop} {Qt : VK} (gg : Go X R E ex) (h : Hd R F H σ Γ)
    (eq : ∀ p F' H' Γ' ds fr vals, Hd R F' H' σ Γ' → Nx σ F H Γ F' H' Γ' → F' p = none → R.H0 p = none → ¬ Ow σ Γ' p → H' p = some (.dK vals) → RpK (fF R F' fr) vals ds → H p = none → Q (.dk ds) fr Γ' → Qt (.ref p) H') (q : wDc w wg wt wk we vs ex Γ Q) : tDc wi g tt tk te vs σ H Qt := by
  refine ki R F H σ Γ ex _ _ gg h (fun J F1 H1 Γ1 items dp h1 x1 it q => ?_) q
  obtain ⟨hsz, q⟩ := q
  intro D0 hD
  obtain ⟨hn, fn, zn, on⟩ := h1.newO (o := .dK []) hD
  have hH : H D0 = none := by
    cases z : H D0 with
    | none => rfl
    | some o => exact absurd hD (x1.stay D0 (by rw [z]; simp))
  refine ⟨fun i m Hc => m = items.length - i ∧ i ≤ items.length ∧ ∃ Fc Γc acc f vals, Hd R Fc Hc σ Γc ∧ Nx σ F1 H1 Γ1 Fc Hc Γc ∧ Hc D0 = some (.dK vals) ∧ RpK (fF R Fc f) vals acc ∧ vals.length ≤ i ∧ Fc D0 = none ∧ ¬ Ow σ Γc D0 ∧
      dcGo wg wt wk we vs dp (items.drop i) acc f Γc (fun ds f Γ2 => Q (.dk ds) f Γ2), ⟨items.length, rfl, Nat.zero_le _, F1, Γ1, [], true, [], hn, Nx.refl.poke hD, upd_same, .nil, Nat.le_refl _, fn, on, q⟩, ?_⟩
  rintro i m Hc ⟨em, hi, Fc, Γc, acc, f, vals, hc, nc, eD, rc, hlen, fD, oD, q2⟩
  have dpo : depE Γc dp → depOk σ σ Γc dp := fun z y hy => ⟨rfl, z y hy⟩
  by_cases hlt : i < items.length
  · rw [drop_cons hlt] at q2
    obtain ⟨de, q2⟩ := q2
    obtain ⟨it1, _⟩ := it i Fc Hc σ Γc nc.ex hc (dpo de)
    obtain ⟨go, yld⟩ := it1 items[i].1 items[i].2 (List.getElem?_eq_getElem hlt)
    refine .inr ⟨go, fun H' => ∃ Fc Γc acc f vals, Hd R Fc H' σ Γc ∧ Nx σ F1 H1 Γ1 Fc H' Γc ∧ H' D0 = some (.dK vals) ∧ RpK (fF R Fc f) vals acc ∧ vals.length ≤ i + 1 ∧ Fc D0 = none ∧ ¬ Ow σ Γc D0 ∧
      dcGo wg wt wk we vs dp (items.drop (i + 1)) acc f Γc (fun ds f Γ2 => Q (.dk ds) f Γ2), fun H' z => ⟨items.length - (i + 1), by omega, rfl, hlt, z⟩, fun x H2 hy => ?_⟩
    obtain ⟨F2, xF, xH, sub, new, rx⟩ := yld x H2 hy
    have h3 := hc.grow xH xF sub new
    have n3 : Nx σ Fc Hc Γc F2 H2 Γc := .grow xF xH new
    refine kg R F2 H2 _ _ x _ _ _ _ gg.K (h3.wiped vs) rx (fun σ4 Γ4 h4 s4 q4 => ?_) q2
    have out4 : ∀ j, j ∉ vs → σ4[j]? = σ[j]? := fun j hj => (s4.out j fun z => hj (hsl j z)).trans (wipe_out hj)
    have ow4 : ∀ a, Ow σ4 Γ4 a → Ow σ Γc a := fun a z => ow_wiped (s4.ow a z)
    have len4 : σ4.length = σ.length := s4.len.trans (wipe_length _ _)
    refine ⟨wipe_same len4 out4, ?_⟩
    have back : ∀ {F6 H6 Γ6}, Hd R F6 H6 σ4 Γ6 → Nx σ4 F2 H2 Γ4 F6 H6 Γ6 → Hd R F6 H6 σ (rs Γc Γ6 vs) ∧ Nx σ Fc Hc Γc F6 H6 (rs Γc Γ6 vs) ∧ H6 D0 = some (.dK vals) ∧ F6 D0 = none ∧ ¬ Ow σ (rs Γc Γ6 vs) D0 := fun {F6 H6 Γ6} h6 x6 => by
      have o4 : ¬ Ow σ4 Γ4 D0 := fun z => oD (ow4 D0 z)
      have nb := n3.block ow4 x6 out4
      have e2 := xH _ _ eD
      refine ⟨h3.unwiped h6 x6.ex len4 out4, nb, x6.keep D0 _ e2 o4, ?_, fun z => oD (nb.ow D0 z)⟩
      cases z : F6 D0 with
      | none => rfl
      | some u =>
        rcases nb.new D0 u z with y | y | y
        · rw [fD] at y; cases y
        · rw [eD] at y; cases y
        · exact absurd y oD
    refine kt R F2 H2 σ4 Γ4 _ _ _ (go_none gg.K) h4 (fun b F5 H5 Γ5 h5 x5 q5 => ?_) q4
    cases b with
    | true =>
      show (if true = true then _ else _)
      rw [if_pos rfl]
      refine kk R F5 H5 σ4 Γ5 _ _ _ (go_none gg.K) h5 (fun y F6 H6 Γ6 dy fy h6 x6 r6 q6 => ?_) q5
      refine ke R F6 H6 σ4 Γ6 _ _ _ (go_none gg.K) h6 (fun v F7 H7 Γ7 d fr h7 x7 r7 q7 => ?_) q6
      cases qk : keyOf dy with
      | none => simp only [qk] at q7
      | some ky =>
        simp only [qk] at q7
        have ey := keyOf_rp qk r6
        subst ey
        obtain ⟨h8, n8, e8, f8, o8⟩ := back h7 ((x5.trans x6).trans x7)
        refine ⟨vals, ky, rfl, e8, by omega, F7, rs Γc Γ7 vs, putD acc ky d, f && fr, putK vals ky v, h8.poke f8 o8 zn, (nc.trans n8).poke hD, upd_same, ?_, ?_, f8, o8, q7⟩
        · exact rpK_put ((rc.mono (fF_mono n8.ex)).mono ex_and) (rpb r7)
        · have := length_putK vals ky v
          omega
    | false =>
      show (if false = true then _ else _)
      rw [if_neg Bool.false_ne_true]
      obtain ⟨h7, n7, e7, f7, o7⟩ := back h5 x5
      exact ⟨F5, rs Γc Γ5 vs, acc, f, vals, h7, nc.trans n7, e7, rc.mono (fF_mono n7.ex), by omega, f7, o7, q5⟩
  · have e : i = items.length := by omega
    subst e
    rw [List.drop_length] at q2
    obtain ⟨de, q2⟩ := q2
    obtain ⟨_, it2⟩ := it items.length Fc Hc σ Γc nc.ex hc (dpo de)
    exact .inl ⟨it2 (Nat.le_refl _), eq D0 Fc Hc Γc acc f vals hc (x1.trans nc) fD zn oD eD rc hH q2⟩
variable {tg iter kx vx : Expr} {ifs : List Expr} {scope : Scope} {own : List (Str × Nat)} {spos : Pos} {sl : List Nat} {w : WI} {wg : WG} {wt : WT} {wk we : WE}
/-- name = {k: v for ..} on one line, the name a local -/
theorem ps_setDc {i : Nat} {y : Str} {py : Pos} {wi : TI} {g : TG} {tt : TT} {tk tv : TE} (hc : X.calm = true) (hN : X.N.Nodup) (hy : X.N[i]? = some y) (hyl : X.env.scope.names.lookup y = some .local)
    (hsw : swapsWith (.DictComp kx vx [⟨tg, iter, ifs, 0⟩] scope pos) (some (.Name y py)) spos.line X.env = pure true) (hi : PI X tg iter wi) (ok : BlkOk X.N X.env.scope scope own)
    (hg : ∀ (s : Shared) (H : Hp) (C : Addr) (cl : List (Str × Addr)) (fp : List Addr), PG (X.blk s H scope (compEnvC scope cl C X.env) fp) tg g) (ht : ∀ (s : Shared) (H : Hp) (C : Addr) (cl : List (Str × Addr)) (fp : List Addr), PTs (X.blk s H scope (compEnvC scope cl C X.env) fp) ifs tt)
    (hk : ∀ (s : Shared) (H : Hp) (C : Addr) (cl : List (Str × Addr)) (fp : List Addr), PE (X.blk s H scope (compEnvC scope cl C X.env) fp) kx tk)
    (he : ∀ (s : Shared) (H : Hp) (C : Addr) (cl : List (Str × Addr)) (fp : List Addr), PE (X.blk s H scope (compEnvC scope cl C X.env) fp) vx tv) (hs : ∀ x, foldedSetIterable iter X.env x = pure x := by intro _; rfl) :
    PS X (.Assign [.Name y py] (.DictComp kx vx [⟨tg, iter, ifs, 0⟩] scope pos) spos) (tAsg (tDc wi g tt tk tv (own.map (·.2))) (gName i)) := by
  refine ⟨fun pins s σ H D I h => ?_⟩
  rw [exec_Assign_Name_used _ _ _ _ hsw]
  refine wpAny_bind (wpAny_standAt (wpAny_bind ?_))
  show wpAny _ X.A (do let _ ← comprehension (.DictComp kx vx [⟨tg, iter, ifs, 0⟩] scope pos) scope X.env (firstIterPos [⟨tg, iter, ifs, 0⟩] pos) newDict false (eval iter X.env) (some (assign (.Name y py) X.env))) _ _ s
  have h : tDc wi g tt tk tv (own.map (·.2)) σ H (fun x H1 => gName i x σ H1 D.nx) := h
  refine wpAny_bind (thn (dc_core (Qf := fun _ s' => SP X pins D .next s') hc hN I hi ok hg ht hk he hs h fun L C s' m H' I' q hn f => ?_) fun _ s' hq => wpAny_pure (wpAny_pure hq))
  show wpAny _ _ (assign (.Name y py) X.env (.ref L)) _ _ _
  refine wpAny_assign_Name (store_ok2 (v := V.ref L) I' hN hy (.inl hyl) rfl (fun s2 I2 ⟨a, sb, ha⟩ => ?_) (.inr hyl))
  obtain ⟨f0, f1, f2, f3, f4, f5⟩ := f
  have haC : C ≠ a := by
    rcases ha with z | z
    · rw [z]; exact f1
    · exact fun e => f4 y a z e.symm
  refine ⟨m, hn.sameBut sb haC, fun h3 sb3 => ?_⟩
  exact ⟨_, H', I2.turned (t' := s2.toks) (fun b o hb e => (sb3.2 b hb).trans e) f0 f1 f3 f4 f5, q⟩
/-- a thing that is not frozen yet becomes a frozen one: the step -/
theorem Nx.frz {σ : L2.St} {F H F' H' : Hp} {Γ Γ' : En} {p : Addr} {u : HO} (x : Nx σ F H Γ F' H' Γ') (f : F' p = none) (n : H p = none) : Nx σ F H Γ (upd F' p u) H' Γ' :=
  ⟨x.ex.trans (Ex.new f), x.keep, x.ow, fun a w e => by
    by_cases ha : a = p
    · rw [ha]; exact .inr (.inl n)
    · rw [upd_ne ha] at e
      exact x.new a w e, x.stay⟩
theorem pw_dc (hc : X.calm = true) (hN : X.N.Nodup) (ok : BlkOk X.N X.env.scope scope own) (hi : PWI X E tg iter w) (hg : Blk X scope fun Y => PWG Y sl tg wg) (ht : Blk X scope fun Y => PWTs Y E0 ifs wt) (hk : Blk X scope fun Y => PWE Y E0 kx wk) (he : Blk X scope fun Y => PWE Y E0 vx we) (hsl : ∀ j ∈ sl, j ∈ own.map (·.2))
    (hs : ∀ x, foldedSetIterable iter X.env x = pure x := by intro _; rfl) : PWE X E (.DictComp kx vx [⟨tg, iter, ifs, 0⟩] scope pos) (wDc w wg wt wk we (own.map (·.2))) := by
  obtain ⟨wi, pi, ki⟩ := hi
  obtain ⟨g, pg, kg⟩ := blk_g hg
  obtain ⟨tt, ptt, kt⟩ := blk_t ht
  obtain ⟨tk, ptk, kk⟩ := blk_e hk
  obtain ⟨te, pte, ke⟩ := blk_e he
  refine ⟨_, pe_dc hc hN pi ok pg ptt ptk pte hs, fun R F H σ Γ ex Q Qt gg h eq q => ?_⟩
  refine dc_run ki kg kt kk ke hsl gg h (fun p F' H' Γ' ds fr vals h' x' f' z' o' e' r' n' q' => ?_) q
  obtain ⟨h2, at_⟩ := h'.frz f' o' z' e'
  exact eq _ _ H' Γ' (.dk ds) fr h2 (x'.frz f' n') (.dk (at_ fr) (r'.mono (fF_mono (Ex.new f')))) q'
theorem pws_setDc {py : Pos} (i : Nat) (hc : X.calm = true) (hN : X.N.Nodup) (ok : BlkOk X.N X.env.scope scope own) (hi : PWI X E tg iter w) (hg : Blk X scope fun Y => PWG Y sl tg wg) (ht : Blk X scope fun Y => PWTs Y E0 ifs wt) (hk : Blk X scope fun Y => PWE Y E0 kx wk) (he : Blk X scope fun Y => PWE Y E0 vx we) (hsl : ∀ j ∈ sl, j ∈ own.map (·.2))
    (hsw : swapsWith (.DictComp kx vx [⟨tg, iter, ifs, 0⟩] scope pos) (some (.Name x py)) spos.line X.env = pure true) (hxi : X.N[i]? = some x := by rfl) (hxl : X.env.scope.names.lookup x = some .local := by rfl)
    (hs : ∀ x, foldedSetIterable iter X.env x = pure x := by intro _; rfl) : PWS X E (.Assign [.Name x py] (.DictComp kx vx [⟨tg, iter, ifs, 0⟩] scope pos) spos) (wSet i (wDc w wg wt wk we (own.map (·.2)))) := by
  obtain ⟨wi, pi, ki⟩ := hi
  obtain ⟨g, pg, kg⟩ := blk_g hg
  obtain ⟨tt, ptt, kt⟩ := blk_t ht
  obtain ⟨tk, ptk, kk⟩ := blk_e hk
  obtain ⟨te, pte, ke⟩ := blk_e he
  refine ⟨_, ps_setDc hc hN hxi hxl hsw pi ok pg ptt ptk pte hs, fun R F H σ Γ P T gg h s q => ?_⟩
  refine dc_run ki kg kt kk ke hsl gg h (fun p F' H' Γ' ds fr vals h' x' f' z' o' e' r' n' q' => ?_) q
  obtain ⟨h2, at_⟩ := h'.frz f' o' z' e'
  have xF : Ex F' (upd F' p (.dK vals)) := Ex.new f'
  exact s.nx _ H' _ _ (h2.put (i := i) (s := .dat (.dk ds) fr) (show Rpf R _ fr _ _ from .dk (at_ fr) (r'.mono (fF_mono xF))) rfl) (x'.ex.trans xF) q'
theorem pws_setDcO {py : Pos} (i : Nat) (hc : X.calm = true) (hN : X.N.Nodup) (ok : BlkOk X.N X.env.scope scope own) (hi : PWI X E tg iter w) (hg : Blk X scope fun Y => PWG Y sl tg wg) (ht : Blk X scope fun Y => PWTs Y E0 ifs wt) (hk : Blk X scope fun Y => PWE Y E0 kx wk) (he : Blk X scope fun Y => PWE Y E0 vx we) (hsl : ∀ j ∈ sl, j ∈ own.map (·.2))
    (hsw : swapsWith (.DictComp kx vx [⟨tg, iter, ifs, 0⟩] scope pos) (some (.Name x py)) spos.line X.env = pure true) (hxi : X.N[i]? = some x := by rfl) (hxl : X.env.scope.names.lookup x = some .local := by rfl)
    (hs : ∀ x, foldedSetIterable iter X.env x = pure x := by intro _; rfl) : PWS X E (.Assign [.Name x py] (.DictComp kx vx [⟨tg, iter, ifs, 0⟩] scope pos) spos) (wSetO i (wDc w wg wt wk we (own.map (·.2)))) := by
  obtain ⟨wi, pi, ki⟩ := hi
  obtain ⟨g, pg, kg⟩ := blk_g hg
  obtain ⟨tt, ptt, kt⟩ := blk_t ht
  obtain ⟨tk, ptk, kk⟩ := blk_e hk
  obtain ⟨te, pte, ke⟩ := blk_e he
  refine ⟨_, ps_setDc hc hN hxi hxl hsw pi ok pg ptt ptk pte hs, fun R F H σ Γ P T gg h s q => ?_⟩
  refine dc_run ki kg kt kk ke hsl gg h (fun p F' H' Γ' ds fr vals h' x' f' z' o' e' r' n' q' => ?_) q
  exact s.nx _ H' _ _ (h'.putOwn (i := i) (o := .dk ds) (fr := fr) ⟨p, rfl, f', z', vals, e', r'⟩ o') x'.ex q'
end
end Y

/-! Y: set(xs) of a list of whole numbers, with its table told (turned from HandS.SetFor's rule for tuples). -/
namespace L2
open PySem PySem.Spec PyProof.Rows
section
variable {P : Program} {w : World} {A : Around} {E : Value → Shared → Prop} {s : Shared}
/-- the empty set as it is laid -/
abbrev set00 (w : World) : Obj := { cls := .type "set", dict := none, data := .set #[] 0 (.fresh 0 0 (!w.params.followText "set-order")) }
theorem y_set_list {l : Addr} {items : Array Value} (ns : List Int) {Q : Value → Shared → Prop} (hh : A.handled = none) (hl : s.heap.IsList l items) (hit : IntsAre items.toList ns) (hb : ns.length + 1 < scanBound)
    (h : ∀ (h' : Heap) (tk c : Nat), SetR w h' s.heap.objs.size (fun j => decide (j ∈ ns)) c → c ≤ ns.length → (∀ b o, s.heap.get? b = some o → h'.get? b = some o) → Q (.ref s.heap.objs.size) { s with heap := h', toks := tk }) :
    wpAny (model P w) A (call (.type "set") [.ref l]) Q E s := by
  have sz : items.size = ns.length := by
    have q := IntsAre.length hit
    rw [Array.length_toList] at q
    exact q
  obtain ⟨c, tl, hmro⟩ := F.called_set.mro
  have hmade := F.called_set.made
  have hsub := F.called_set.sub
  refine wpAny_call (codeAny_of_tree ?_)
  show wpAny _ _ (callAny (.type "set") _) _ _ _
  refine wpAny_pure ⟨Code.quiet_builtin _ (by decide +kernel), codeAny_builtin F.entry_type_call ?_⟩
  rw [Around.under_plain (weight_type_call_type "set" [.ref l] []) rfl]
  have h1 := F.called_set.notType
  have h2 := F.called_set.canCreate
  have hct := F.typeCall_set_1 (.ref l)
  repeat (any_goals (first | assumption | wp_step))
  refine codeAny_mono (code_set_led1 (.ref l) (E := E) (Q₁ := fun obj s₁ => obj = .ref s.heap.objs.size ∧ s₁ = { s with heap := s.heap.push (set00 w) }) ⟨rfl, rfl⟩) fun r s₁ hr => ?_
  match r, hr with
  | .error e, hr => exact hr
  | .ok .next, hr => exact hr.elim
  | .ok .brk, hr => exact hr.elim
  | .ok .cont, hr => exact hr.elim
  | .ok (.ret obj), ⟨e1, e2⟩ =>
    subst e1
    subst e2
    have hS : (s.heap.push (set00 w)).get? s.heap.objs.size = some (set00 w) := Heap.get?_push_size _ rfl
    have hT : Shared.TypeIs { s with heap := s.heap.push (set00 w) } (.ref s.heap.objs.size) "set" := ⟨_, hS, rfl⟩
    have hli := F.called_set.init.lookup
    have hbi := F.called_set.init.bind (.ref s.heap.objs.size)
    repeat (any_goals (first | assumption | wp_step))
    refine codeAny_mono (codeAny_call_builtin (R := wants (fun r s₂ => r = .none ∧ ∃ h' tk c, s₂ = { s with heap := h', toks := tk } ∧ SetR w h' s.heap.objs.size (fun j => decide (j ∈ ns)) c ∧ c ≤ ns.length ∧
        (∀ b o, s.heap.get? b = some o → h'.get? b = some o)) E) F.called_set.init.plain F.entry_set_init (check_set_init_1 hT ?_)) fun r₂ s₂ hr₂ => ?_
    · obtain ⟨ol, hol, hcl, nl, hdl⟩ := hl
      obtain ⟨ocls, odict, odata, oslots⟩ := ol
      simp only at hcl hdl
      subst hcl
      subst hdl
      have hol' : (s.heap.push (set00 w)).get? l = some { cls := .type "list", dict := odict, data := .seq items nl, slots := oslots } := Heap.get?_push_of_some _ hol
      have hsls := F.sub_list_set
      have hslf := F.sub_list_frozenset
      have hne : (Value.type "list" == Value.type "dict") = false := by decide
      have hl1 : (s.heap.push (set00 w)).IsList l items := ⟨_, hol', rfl, nl, rfl⟩
      unfold Builtin.«set.__init__» noKeywords Builtin.Frozenset.updateFrom
      generalize hPI : pyIter = PI
      wp_walk
      subst hPI
      refine wpAny_pyIter_list hl1 ?_
      refine wpAny_bind (wpAny_runValue ?_)
      have hlS : l < s.heap.objs.size := Heap.lt_size hol
      have hh3 : A.in1.in1.in1.handled = none := by simp [hh]
      have hneI : l ≠ (s.heap.push (set00 w)).objs.size := by
        rw [Heap.size_push]; exact Nat.ne_of_lt (Nat.lt_succ_of_lt hlS)
      have hSf : s.heap.objs.size ∉ [(s.heap.push (set00 w)).objs.size, l] := by
        rw [Heap.size_push]; simp only [List.mem_cons, List.mem_singleton, List.not_mem_nil, or_false, not_or]
        exact ⟨Nat.ne_of_lt (Nat.lt_succ_self _), Nat.ne_of_gt hlS⟩
      have hval : ∀ (i : Nat) (v : Value), items[i]? = some v → ∃ k t, ns[i]? = some k ∧ v = .int k t := fun i v hv => by
        have hi : i < ns.length := by rw [← sz]; exact (Array.getElem?_eq_some_iff.mp hv).1
        obtain ⟨t, e⟩ := PyProof.Rows.IntsAre.int_at hit i v (by rw [Array.getElem?_toList]; exact hv)
        refine ⟨ns[i], t, List.getElem?_eq_getElem hi, ?_⟩
        rw [e, List.getD_eq_getElem?_getD, List.getElem?_eq_getElem hi] <;> rfl
      refine set_update_ints ((Walks.list hh3 _ l hneI items).toS) s.heap.objs.size
        hSf ns sz hb hval (items.size - 0) 0 _ (by omega) (Nat.zero_le _)
        ⟨⟨_, Heap.get?_push_size _ rfl, rfl, rfl⟩, (hl1.push _)⟩ ⟨0, Nat.le_refl 0, setR_new_at (Heap.get?_push_of_some _ hS)⟩ fun s' c' hm hc' hS' => ?_
      obtain ⟨h', g2, d', tk', os'⟩ := s'
      have eg : g2 = s.gens := hm.gens
      have ed : d' = s.drawn := hm.drawn
      have eo : os' = s.os := hm.os
      subst eg
      subst ed
      subst eo
      show wpAny _ _ _ _ _ _
      refine wpAny_pure ?_
      show wpAny _ _ (ret Value.none) _ _ _
      rw [sz] at hc'
      refine wpAny_pure ⟨rfl, h', tk', c', rfl, hS', hc', fun b o e => ?_⟩
      have hb0 : b < s.heap.objs.size := Heap.lt_size e
      have hb1 : b ≠ s.heap.objs.size := Nat.ne_of_lt hb0
      have hb2 : b ≠ (s.heap.push (set00 w)).objs.size := by
        rw [Heap.size_push]; exact Nat.ne_of_lt (Nat.lt_succ_of_lt hb0)
      exact hm.heap b o (by simp only [List.mem_cons, List.mem_singleton, List.not_mem_nil, or_false, not_or]; exact ⟨hb1, hb2⟩) (Heap.get?_push_of_some _ (Heap.get?_push_of_some _ e))
    · match r₂, hr₂ with
      | .error e, hr₂ => exact hr₂
      | .ok .next, hr₂ => exact hr₂.elim
      | .ok .brk, hr₂ => exact hr₂.elim
      | .ok .cont, hr₂ => exact hr₂.elim
      | .ok (.ret r), ⟨e1, h', tk, c', e2, hS', hc', hk'⟩ =>
        subst e1
        subst e2
        repeat (any_goals (first | assumption | wp_step))
        exact h _ _ _ hS' hc' hk'
end
section
variable {X : Cx}
/-- set(xs), xs a list of whole numbers -/
def rSetLI (K : PySem.W.Frag) (w : World) : List V → Hp → VK → Prop := fun vs H Q => ∃ (a : Addr) (ns : List Int), vs = [V.ref a] ∧ SqL K H a (ns.map V.int) ∧ ns.length < 1000 ∧
  ∀ (c : Nat) (p : Addr), c ≤ ns.length → H p = none → Q (.ref p) (upd H p (SetO w p (fun j => decide (j ∈ ns)) c))
theorem cr_setLI (hc : X.calm = true) : CallR X (.type "set") (rSetLI X.K X.w) := by
  intro pins s σ H vs us Q I r h
  obtain ⟨a, ns, rfl, hs, hz, q⟩ := h
  obtain ⟨its, rv, hl, _⟩ := I.list hs
  rw [Vals.ref1 r]
  refine y_set_list ns (I.ok.hd hc) hl.isList rv.ints (by unfold scanBound; omega) fun h' tk c R cn k => ?_
  exact ⟨.ref _, upd H s.heap.objs.size (SetO X.w s.heap.objs.size (fun j => decide (j ∈ ns)) c), I.laid (t' := tk) k (Nat.le_refl _) (setO_new R), rfl, q c _ cn (I.hok.fresh (Nat.le_refl _))⟩
end
end L2

/-! Y: part 13: powers, calls of two things, ranges as lists, sorted, set, zip, slices. -/
namespace Y
open PySem PySem.Spec PyProof.Rows L2

section
variable {X : Cx} {E : XK} {e a b c tg : Expr} {es : List Expr} {pos p p1 p2 pos1 : Pos} {x : Str} {wa wb wc : WE} {va vb : WV}
/-! ### powers -/
def CPowW (i j : Int) : Prop := 0 ≤ j ∧ (Builtin.Int.intBits i : Int) * j ≤ 2 ^ 27
theorem op_powW : OpR X (binaryOp .Pow) (rI CPowW fun i j => .int (i ^ j.toNat)) := opI fun _ _ _ _ _ _ _ hc q => pow_int hc.1 hc.2 q
theorem o_pow : OpR X (binaryOp .Pow) (rI CPowW fun i j => .int (i ^ j.toNat)) ∧ OK2 X (rI CPowW fun i j => .int (i ^ j.toNat)) (kI CPowW fun i j => .int (i ^ j.toNat)) := ⟨op_powW, ok_kI fun _ _ => rfl⟩

/-! ### calls of two things -/
abbrev KC2 := D → Bool → D → Bool → (D → Bool → Prop) → Prop
def OC2 (X : Cx) (r : List V → Hp → VK → Prop) (k : KC2) : Prop := ∀ (R : Rl) (F H : Hp) (σ : L2.St) (Γ : En) v d fr u g fu Q Qt, R.K = X.K → Hd R F H σ Γ → Rpf R F fr v d → Rpf R F fu u g → KQ R F H σ Γ Q Qt → k d fr g fu Q → r [v, u] H Qt
@[reducible] def wC2 (k : KC2) (wa wb : WE) : WE := fun ex Γ Q => wa ex Γ fun x fx Γ1 => wb ex Γ1 fun y fy Γ2 => k x fx y fy fun z fz => Q z fz Γ2
theorem pw_b2 {id : String} {r : List V → Hp → VK → Prop} {k : KC2} (o : CallR X (.builtin id) r ∧ OC2 X r k) (hm : X.mg x = none) (hv : bootBuiltins x = some (.builtin id)) (ha : PWE X E a wa) (hb : PWE X E b wb) (hg : Gl X x := by rfl) (hn : x ≠ "__name__" := by decide) (hdb : (x == ("__debug__" : Str)) = false := by decide)
    (he : starEach (a :: [b]) X.env = (false, eval a X.env) :: starEach [b] X.env := by rfl) (he2 : starEach (b :: []) X.env = (false, eval b X.env) :: starEach [] X.env := by rfl) (hpl : (backTo pos (starEach [b] X.env)).any (·.1) = false := by rfl) :
    PWE X E (.Call (.Name x p) [a, b] [] pos) (wC2 k wa wb) := by
  obtain ⟨ta, pa, ka⟩ := ha
  obtain ⟨tb, pb, kb⟩ := hb
  refine ⟨_, pe_callB o.1 hg hm hv (pa_cons pa (pa_cons pb pa_nil he2) he) hn hdb he hpl, fun R F H σ Γ ex Q Qt g h eq w => ?_⟩
  exact ka R F H σ Γ ex _ _ g h (fun v F1 H1 Γ1 d fr h1 x1 r1 w1 => kb R F1 H1 σ Γ1 ex _ _ g h1 (fun u F2 H2 Γ2 d2 fr2 h2 x2 r2 w2 =>
    o.2 R F2 H2 σ Γ2 v d fr u d2 fr2 _ Qt g.K h2 (r1.mono (fF_mono x2.ex)) r2 (fun v F3 H3 d fr h3 x3 r3 q => eq v F3 H3 Γ2 d fr h3 ((x1.trans x2).trans x3) r3 q) w2) w1) w
@[reducible] def kMin2 : KC2 := fun d _ g _ Q => match d, g with
  | .int i, .int j => Q (.int (if j < i then j else i)) true
  | _, _ => False
@[reducible] def kMax2 : KC2 := fun d _ g _ Q => match d, g with
  | .int i, .int j => Q (.int (if j > i then j else i)) true
  | _, _ => False
theorem o_min2 (hc : X.calm = true) : CallR X (.builtin "min") (fun xs H Q => ∃ i j, xs = [.int i, .int j] ∧ Q (.int (if j < i then j else i)) H) ∧ OC2 X (fun xs H Q => ∃ i j, xs = [.int i, .int j] ∧ Q (.int (if j < i then j else i)) H) kMin2 := by
  refine ⟨call_min2 hc, fun R F H σ Γ v d fr u g fu Q Qt hK h r1 r2 eq k => ?_⟩
  cases d with
  | int i => cases g with
    | int j =>
      have e := rp_int r1
      subst e
      have e := rp_int r2
      subst e
      exact ⟨i, j, rfl, eq _ F H _ true h Nx.refl (.int _) k⟩
    | _ => exact k.elim
  | _ => exact k.elim
theorem o_max2 (hc : X.calm = true) : CallR X (.builtin "max") (fun xs H Q => ∃ i j, xs = [.int i, .int j] ∧ Q (.int (if j > i then j else i)) H) ∧ OC2 X (fun xs H Q => ∃ i j, xs = [.int i, .int j] ∧ Q (.int (if j > i then j else i)) H) kMax2 := by
  refine ⟨call_max2 hc, fun R F H σ Γ v d fr u g fu Q Qt hK h r1 r2 eq k => ?_⟩
  cases d with
  | int i => cases g with
    | int j =>
      have e := rp_int r1
      subst e
      have e := rp_int r2
      subst e
      exact ⟨i, j, rfl, eq _ F H _ true h Nx.refl (.int _) k⟩
    | _ => exact k.elim
  | _ => exact k.elim
@[reducible] def kDivmod : KC2 := fun d _ g _ Q => match d, g with
  | .int i, .int j => CDiv i j ∧ Q (.tup [.int (i / j), .int (i % j)]) true
  | _, _ => False
theorem o_divmod : CallR X (.builtin "divmod") (fun xs H Q => ∃ i j, xs = [.int i, .int j] ∧ CDiv i j ∧ ∀ p, H p = none → Q (.ref p) (upd H p (.tup [.int (i / j), .int (i % j)]))) ∧ OC2 X (fun xs H Q => ∃ i j, xs = [.int i, .int j] ∧ CDiv i j ∧ ∀ p, H p = none → Q (.ref p) (upd H p (.tup [.int (i / j), .int (i % j)]))) kDivmod := by
  refine ⟨call_divmod, fun R F H σ Γ v d fr u g fu Q Qt hK h r1 r2 eq k => ?_⟩
  cases d with
  | int i => cases g with
    | int j =>
      have e := rp_int r1
      subst e
      have e := rp_int r2
      subst e
      refine ⟨i, j, rfl, k.1, fun p hp => ?_⟩
      obtain ⟨h2, x2, at_⟩ := h.newF (o := .tup [.int (i / j), .int (i % j)]) hp
      exact eq _ _ _ _ true h2 x2 (.tup (at_ _) (.cons (.int _) (.cons (.int _) .nil))) k.2
    | _ => exact k.elim
  | _ => exact k.elim

/-! ### list(range(..)) -/
def rgD (lo : Int) (n : Nat) : List D := (List.range n).map fun (i : Nat) => D.int (lo + i)
theorem rg_rp {F : Hp} (a b : Int) : RpAll F (rgV a b) (rgD a (b - a).toNat) := by
  unfold rgV rgD
  generalize List.range (b - a).toNat = l
  induction l with
  | nil => exact .nil
  | cons i l ih => exact .cons (.int _) ih
@[reducible] def wLR1 (wa : WE) : WE := fun ex Γ Q => wa ex Γ fun d _ Γ1 => match d with
  | .int n => RgOk 0 n ∧ Q (.lst (rgD 0 (n - 0).toNat)) true Γ1
  | _ => False
@[reducible] def wLR2 (wa wb : WE) : WE := fun ex Γ Q => wa ex Γ fun d _ Γ1 => wb ex Γ1 fun d2 _ Γ2 => match d, d2 with
  | .int i, .int j => RgOk i j ∧ Q (.lst (rgD i (j - i).toNat)) true Γ2
  | _, _ => False
theorem pw_listRg1 (hc : X.calm = true) (hm : X.mg "list" = none) (hm2 : X.mg "range" = none) (ha : PWE X E a wa) (hg : Gl X "list" := by rfl) (hg2 : Gl X "range" := by rfl) (na : starEach [a] X.env = (false, eval a X.env) :: starEach [] X.env := by rfl)
    (nb : starEach [.Call (.Name "range" p1) [a] [] pos1] X.env = (false, eval (.Call (.Name "range" p1) [a] [] pos1) X.env) :: starEach [] X.env := by rfl) : PWE X E (.Call (.Name "list" p) [.Call (.Name "range" p1) [a] [] pos1] [] pos) (wLR1 wa) := by
  obtain ⟨ta, pa, ka⟩ := ha
  refine ⟨_, pe_listRg hc hg hm (prg_1 hg2 hm2 pa na) nb, fun R F H σ Γ ex Q Qt g h eq w => ?_⟩
  refine ka R F H σ Γ ex _ _ g h (fun v F1 H1 Γ1 d fr h1 x1 r1 w1 => ?_) w
  cases d with
  | int n =>
    refine ⟨n, rp_int r1, w1.1, fun q hq => ?_⟩
    obtain ⟨h2, x2, at_⟩ := h1.newF (o := .lst (rgV 0 n)) hq
    exact eq _ _ _ Γ1 _ true h2 (x1.trans x2) (.lst (at_ _) (rg_rp 0 n)) w1.2
  | _ => exact w1.elim
theorem pn_listRg1 (hc : X.calm = true) (hm : X.mg "list" = none) (hm2 : X.mg "range" = none) (ha : PWE X E a wa) (hg : Gl X "list" := by rfl) (hg2 : Gl X "range" := by rfl) (na : starEach [a] X.env = (false, eval a X.env) :: starEach [] X.env := by rfl)
    (nb : starEach [.Call (.Name "range" p1) [a] [] pos1] X.env = (false, eval (.Call (.Name "range" p1) [a] [] pos1) X.env) :: starEach [] X.env := by rfl) : PWN X E (.Call (.Name "list" p) [.Call (.Name "range" p1) [a] [] pos1] [] pos) (wLR1 wa) := by
  obtain ⟨ta, pa, ka⟩ := ha
  refine ⟨_, pe_listRg hc hg hm (prg_1 hg2 hm2 pa na) nb, fun R F H σ Γ ex Q Qt g h eq w => ?_⟩
  refine ka R F H σ Γ ex _ _ g h (fun v F1 H1 Γ1 d fr h1 x1 r1 w1 => ?_) w
  cases d with
  | int n =>
    refine ⟨n, rp_int r1, w1.1, fun q hq => ?_⟩
    obtain ⟨h2, f2, z2, n2⟩ := h1.newO (o := .lst (rgV 0 n)) hq
    exact eq q F1 _ Γ1 (.lst _) _ h2 (x1.newO hq) (x1.was hq) ⟨q, rfl, f2, z2, _, upd_same, rg_rp 0 n⟩ n2 w1.2
  | _ => exact w1.elim
theorem pw_listRg2 (hc : X.calm = true) (hm : X.mg "list" = none) (hm2 : X.mg "range" = none) (ha : PWE X E a wa) (hb : PWE X E b wb) (hg : Gl X "list" := by rfl) (hg2 : Gl X "range" := by rfl) (na : starEach [a, b] X.env = (false, eval a X.env) :: starEach [b] X.env := by rfl)
    (nb : starEach [b] X.env = (false, eval b X.env) :: starEach [] X.env := by rfl) (hpl : (backTo pos1 (starEach [b] X.env)).any (·.1) = false := by rfl)
    (nc : starEach [.Call (.Name "range" p1) [a, b] [] pos1] X.env = (false, eval (.Call (.Name "range" p1) [a, b] [] pos1) X.env) :: starEach [] X.env := by rfl) : PWE X E (.Call (.Name "list" p) [.Call (.Name "range" p1) [a, b] [] pos1] [] pos) (wLR2 wa wb) := by
  obtain ⟨ta, pa, ka⟩ := ha
  obtain ⟨tb, pb, kb⟩ := hb
  refine ⟨_, pe_listRg hc hg hm (prg_2 hg2 hm2 pa pb na nb hpl) nc, fun R F H σ Γ ex Q Qt g h eq w => ?_⟩
  refine ka R F H σ Γ ex _ _ g h (fun v F1 H1 Γ1 d fr h1 x1 r1 w1 => kb R F1 H1 σ Γ1 ex _ _ g h1 (fun u F2 H2 Γ2 d2 fr2 h2 x2 r2 w2 => ?_) w1) w
  cases d with
  | int n => cases d2 with
    | int m =>
      refine ⟨n, m, rp_int r1, rp_int r2, w2.1, fun q hq => ?_⟩
      obtain ⟨h3, x3, at_⟩ := h2.newF (o := .lst (rgV n m)) hq
      exact eq _ _ _ Γ2 _ true h3 ((x1.trans x2).trans x3) (.lst (at_ _) (rg_rp n m)) w2.2
    | _ => exact w2.elim
  | _ => exact w2.elim
theorem pn_listRg2 (hc : X.calm = true) (hm : X.mg "list" = none) (hm2 : X.mg "range" = none) (ha : PWE X E a wa) (hb : PWE X E b wb) (hg : Gl X "list" := by rfl) (hg2 : Gl X "range" := by rfl) (na : starEach [a, b] X.env = (false, eval a X.env) :: starEach [b] X.env := by rfl)
    (nb : starEach [b] X.env = (false, eval b X.env) :: starEach [] X.env := by rfl) (hpl : (backTo pos1 (starEach [b] X.env)).any (·.1) = false := by rfl)
    (nc : starEach [.Call (.Name "range" p1) [a, b] [] pos1] X.env = (false, eval (.Call (.Name "range" p1) [a, b] [] pos1) X.env) :: starEach [] X.env := by rfl) : PWN X E (.Call (.Name "list" p) [.Call (.Name "range" p1) [a, b] [] pos1] [] pos) (wLR2 wa wb) := by
  obtain ⟨ta, pa, ka⟩ := ha
  obtain ⟨tb, pb, kb⟩ := hb
  refine ⟨_, pe_listRg hc hg hm (prg_2 hg2 hm2 pa pb na nb hpl) nc, fun R F H σ Γ ex Q Qt g h eq w => ?_⟩
  refine ka R F H σ Γ ex _ _ g h (fun v F1 H1 Γ1 d fr h1 x1 r1 w1 => kb R F1 H1 σ Γ1 ex _ _ g h1 (fun u F2 H2 Γ2 d2 fr2 h2 x2 r2 w2 => ?_) w1) w
  cases d with
  | int n => cases d2 with
    | int m =>
      refine ⟨n, m, rp_int r1, rp_int r2, w2.1, fun q hq => ?_⟩
      obtain ⟨h3, f3, z3, n3⟩ := h2.newO (o := .lst (rgV n m)) hq
      exact eq q F2 _ Γ2 (.lst _) _ h3 ((x1.trans x2).newO hq) ((x1.trans x2).was hq) ⟨q, rfl, f3, z3, _, upd_same, rg_rp n m⟩ n3 w2.2
    | _ => exact w2.elim
  | _ => exact w2.elim

/-! ### sorted -/
/-- the order of sorted, by data -/
def leD (x y : D) : Bool := PySem.W.dataLe false pd x y
structure SortOk (ds : List D) : Prop where
  plain : plainAll ds = true
  alike : PySem.W.AllAlike (ds.map pd)
  kind : PySem.W.Sortable (ds.map pd)
  len : ds.length ≤ sizeLine
  dep : ∀ d ∈ ds, (pd d).depth ≤ 60
@[reducible] def kSorted : K1 := fun d fr Q => match d with
  | .lst ds => SortOk ds ∧ Q (.lst (ds.mergeSort leD)) fr
  | _ => False
def rSortD (A : Around) (K : PySem.W.Frag) : List V → Hp → VK → Prop := fun vs H Q => ∃ (a : Addr) (xs : List (V × D)), vs = [V.ref a] ∧ SqL K H a (xs.map (·.1)) ∧ (∀ x ∈ xs, Dp K H x.1 (pd x.2)) ∧
  PySem.W.AllAlike (xs.map fun x => pd x.2) ∧ PySem.W.Sortable (xs.map fun x => pd x.2) ∧ xs.length ≤ sizeLine ∧ (∀ x ∈ xs, A.units + 2 + (pd x.2).depth < cLine) ∧
  ∀ p, H p = none → Q (.ref p) (upd H p (.lst ((xs.mergeSort (PySem.W.dataLe false fun x => pd x.2)).map (·.1))))
theorem each_vals {pins : List (Addr × Obj)} {σ : L2.St} {H : Hp} {s : Shared} (I : Inv X pins σ H s) : ∀ {xs : List (V × D)} {us : List Value}, Vals (xs.map (·.1)) us → (∀ x ∈ xs, Dp X.K H x.1 (pd x.2)) → PySem.W.EachIs (fun (v : Value) (x : V × D) => ∃ as, Reads s.heap v (pd x.2) as) us xs
  | [], _, r, _ => by
    rw [List.map_nil] at r
    cases r
    exact .nil
  | x :: xs, _, r, h => by
    rw [List.map_cons] at r
    cases r with
    | cons a r => exact .cons (Dp.reads I _ _ _ (h x List.mem_cons_self) a) (each_vals I r fun y hy => h y (List.mem_cons_of_mem _ hy))
theorem each_rel : ∀ {xs : List (V × D)} {us : List Value}, Vals (xs.map (·.1)) us → PySem.W.EachIs (fun (v : Value) (x : V × D) => RelV x.1 v) us xs
  | [], _, r => by
    rw [List.map_nil] at r
    cases r
    exact .nil
  | x :: xs, _, r => by
    rw [List.map_cons] at r
    cases r with
    | cons a r => exact .cons a (each_rel r)
theorem vals_each : ∀ {us : List Value} {xs : List (V × D)}, PySem.W.EachIs (fun (v : Value) (x : V × D) => RelV x.1 v) us xs → Vals (xs.map (·.1)) us
  | _, _, .nil => .nil
  | _, _, .cons a r => .cons a (vals_each r)
theorem cr_sortD : CallR X (.builtin "sorted") (rSortD X.A X.K) := by
  intro pins s σ H vs us Q I r h
  obtain ⟨a, xs, rfl, hs, hd, hal, hk, hl, hu, q⟩ := h
  obtain ⟨its, rv, ht, _⟩ := I.list hs
  rw [Vals.ref1 r]
  refine PySem.W.sorted_data (enc := fun x : V × D => pd x.2) (bs := xs) ht.isList (each_rel rv) (each_vals I rv hd) hal hk hl hu fun out ho he => ?_
  obtain ⟨ep, he'⟩ := PyProof.Rows.sortedAll_at s.heap its out.toArray
  refine ⟨.ref _, upd H (s.heap.objs.size + 1) (.lst ((xs.mergeSort (PySem.W.dataLe false fun x => pd x.2)).map (·.1))), I.laid (t' := s.toks) (fun _ _ => PyProof.Rows.sortedAll_old) (Nat.le_succ _) ⟨?_, out, ep, vals_each he, he'⟩, rfl, q _ (I.hok.fresh (Nat.le_succ _))⟩
  rw [List.length_map, List.length_mergeSort]
  exact hl
/-- the pairs of what stands and what it stands for -/
theorem pairs_of {F : Hp} : ∀ {vs : List V} {ds : List D}, RpAll F vs ds → ∃ xs : List (V × D), xs.map (·.1) = vs ∧ xs.map (·.2) = ds ∧ ∀ x ∈ xs, Rp F x.1 x.2
  | _, _, .nil => ⟨[], rfl, rfl, fun _ h => by cases h⟩
  | _, _, .cons (v := v) (d := d) a r => by
    obtain ⟨xs, e1, e2, h⟩ := pairs_of r
    exact ⟨(v, d) :: xs, by rw [List.map_cons, e1], by rw [List.map_cons, e2], fun x hx => by
      rcases List.mem_cons.mp hx with q | q
      · rw [q]; exact a
      · exact h x q⟩
theorem rpAll_pairs {F : Hp} : ∀ {xs : List (V × D)}, (∀ x ∈ xs, Rp F x.1 x.2) → RpAll F (xs.map (·.1)) (xs.map (·.2))
  | [], _ => .nil
  | x :: xs, h => .cons (h x List.mem_cons_self) (rpAll_pairs fun y hy => h y (List.mem_cons_of_mem _ hy))
theorem plainAll_mem : ∀ {ds : List D}, plainAll ds = true → ∀ d ∈ ds, plain d = true
  | [], _, _, h => by cases h
  | x :: xs, h, d, hd => by
    unfold plainAll at h
    obtain ⟨h1, h2⟩ := Bool.and_eq_true_iff.mp h
    rcases List.mem_cons.mp hd with q | q
    · rw [q]; exact h1
    · exact plainAll_mem h2 d q
theorem o_sorted (hu : X.A.units + 64 < cLine) : CallR X (.builtin "sorted") (rSortD X.A X.K) ∧ OC1 X (rSortD X.A X.K) kSorted := by
  refine ⟨cr_sortD, fun R F H σ Γ v d fr Q Qt hK h s eq k => ?_⟩
  cases d with
  | lst ds =>
    obtain ⟨ok, k⟩ := k
    obtain ⟨p, vs, e1, e2, r⟩ := s
    subst e1
    obtain ⟨xs, ev, ed, hx⟩ := pairs_of r
    subst ev
    subst ed
    have em : ∀ (l : List (V × D)), (l.mergeSort (PySem.W.dataLe false fun x => pd x.2)).map (·.2) = (l.map (·.2)).mergeSort leD := fun l => List.map_mergeSort fun a _ b _ => rfl
    have pl : ∀ x ∈ xs, plain x.2 = true := fun x hm => plainAll_mem ok.plain _ (List.mem_map_of_mem hm)
    refine ⟨p, xs, rfl, .inl (.inl e2), fun x hm => Rp.dp h.sub (Rp.mono fF_ex (hx x hm)) (pl x hm), ?_, ?_, ?_, fun x hm => ?_, fun q hq => ?_⟩
    · have z := ok.alike
      rw [List.map_map] at z
      exact z
    · have z := ok.kind
      rw [List.map_map] at z
      exact z
    · have z := ok.len
      rw [List.length_map] at z
      exact z
    · have z := ok.dep _ (List.mem_map_of_mem (f := fun x : V × D => x.2) hm)
      omega
    · obtain ⟨h2, x2, at_⟩ := h.newF (o := .lst ((xs.mergeSort (PySem.W.dataLe false fun x => pd x.2)).map (·.1))) hq
      refine eq _ _ _ _ fr h2 x2 (.lst (at_ _) ?_) k
      rw [← em]
      exact (rpAll_pairs fun x hm => hx x (List.mem_mergeSort.mp hm)).mono (fF_mono x2.ex)
  | _ => exact k.elim
/-- sorted(set(xs)), whole numbers -/
@[reducible] def wSorSet (wa : WE) : WE := fun ex Γ Q => wa ex Γ fun d _ Γ1 => ∃ ns : List Int, d = .lst (ns.map .int) ∧ ns.length < 64 ∧ ∀ ms : List Int, ms.Pairwise (· < ·) → (∀ k : Int, k ∈ ms ↔ k ∈ ns) → Q (.lst (ms.map .int)) true Γ1
theorem pw_sortSet (hc : X.calm = true) (hm : X.mg "sorted" = none) (hm2 : X.mg "set" = none) (hv : bootBuiltins "sorted" = some (.builtin "sorted")) (hv2 : bootBuiltins "set" = some (.type "set")) (ha : PWE X E a wa) (hg : Gl X "sorted" := by rfl) (hg2 : Gl X "set" := by rfl)
    (na : starEach [a] X.env = (false, eval a X.env) :: starEach [] X.env := by rfl) (nb : starEach [.Call (.Name "set" p1) [a] [] pos1] X.env = (false, eval (.Call (.Name "set" p1) [a] [] pos1) X.env) :: starEach [] X.env := by rfl)
    (hpl : (backTo pos (starEach [] X.env)).any (·.1) = false := by rfl) (hpl1 : (backTo pos1 (starEach [] X.env)).any (·.1) = false := by rfl) :
    PWE X E (.Call (.Name "sorted" p) [.Call (.Name "set" p1) [a] [] pos1] [] pos) (wSorSet wa) := by
  obtain ⟨ta, pa, ka⟩ := ha
  refine ⟨_, pe_callB (cr_sortedSet hc) hg hm hv (pa_cons (pe_callTy (cr_setLI hc) hg2 hm2 hv2 (pa_cons pa pa_nil na) (by decide) (by decide) na hpl1) pa_nil nb) (by decide) (by decide) nb hpl, fun R F H σ Γ ex Q Qt g h eq w => ?_⟩
  refine ka R F H σ Γ ex _ _ g h (fun v F1 H1 Γ1 d fr h1 x1 r1 w1 => ?_) w
  obtain ⟨ns, e, hl, k⟩ := w1
  subst e
  obtain ⟨q, vs, e1, e2, r⟩ := vw_sees h1 (vw := .val (.lst (ns.map .int)) fr) r1 rfl
  subst e1
  have e5 := r.of_ints
  subst e5
  refine ⟨q, ns, rfl, .inl (.inl e2), by omega, fun c s hcn hs => ?_⟩
  obtain ⟨h2, f2, z2, n2⟩ := h1.newO (o := SetO X.w s (fun j => decide (j ∈ ns)) c) hs
  refine ⟨s, _, c, rfl, upd_same, by omega, fun ms l hp hm hn hl => ?_⟩
  obtain ⟨h3, x3, at_⟩ := h2.newF (o := .lst (ms.map V.int)) hl
  have n12 : Nx σ F1 H1 Γ1 F1 (upd H1 s (SetO X.w s (fun j => decide (j ∈ ns)) c)) Γ1 := .grow (Ex.refl _) (Ex.new hs) fun a u e => .inl e
  exact eq _ _ _ Γ1 _ true h3 ((x1.trans n12).trans x3) (.lst (at_ _) (RpAll.ints ms)) (k ms hp fun j => by rw [hm j, decide_eq_true_eq])

/-! ### zip -/
def zipD (ds : List D) (f : Bool) (es : List D) (g : Bool) : List (D × Bool) := (ds.zip es).map fun q => (.tup [q.1, q.2], f && g)
@[reducible] def wItZ (wa wb : WE) : WI := fun ex Γ Q => wa ex Γ fun d f Γ1 => wb ex Γ1 fun d2 g Γ2 => match d, d2 with
  | .lst ds, .lst es => Q (zipD ds f es g) [] Γ2
  | _, _ => False
theorem zip_get {ds es : List D} {f g f2 : Bool} {i : Nat} {d : D} (h : (zipD ds f es g)[i]? = some (d, f2)) : ∃ y z, ds[i]? = some y ∧ es[i]? = some z ∧ d = .tup [y, z] ∧ f2 = (f && g) := by
  unfold zipD at h
  rw [List.getElem?_map] at h
  cases q : (ds.zip es)[i]? with
  | none => rw [q] at h; cases h
  | some z =>
    rw [q] at h
    obtain ⟨y, z⟩ := z
    obtain ⟨h1, h2⟩ := List.getElem?_zip_eq_some.mp q
    simp at h
    exact ⟨y, z, h1, h2, h.1.symm, h.2.symm⟩
theorem pi_zp {elts : List Expr} {kk : Nat} {tpos : Pos} (hm : X.mg "zip" = none) (ha : PWE X E a wa) (hb : PWE X E b wb) (hg : Gl X "zip" := by rfl) (hs : starEach [a, b] X.env = (false, eval a X.env) :: starEach [b] X.env := by rfl)
    (hs2 : starEach [b] X.env = (false, eval b X.env) :: starEach [] X.env := by rfl) (hpl : (backTo pos (starEach [b] X.env)).any (·.1) = false := by rfl) : PWI X E (.Tuple elts kk tpos) (.Call (.Name "zip" p) [a, b] [] pos) (wItZ wa wb) := by
  obtain ⟨ta, pa, ka⟩ := ha
  obtain ⟨tb, pb, kb⟩ := hb
  refine ⟨_, RZ.pi_zipA hg hm (pa_cons pa (pa_cons pb pa_nil hs2) hs) hs hpl, fun R F H σ Γ ex Q Rt g h iq w => ?_⟩
  refine ka R F H σ Γ ex _ _ g h (fun v F1 H1 Γ1 d f h1 x1 r1 w1 => kb R F1 H1 σ Γ1 ex _ _ g h1 (fun u F2 H2 Γ2 d2 f2 h2 x2 r2 w2 => ?_) w1) w
  cases d with
  | lst ds => cases d2 with
    | lst es =>
      have r1' := r1.mono (fF_mono x2.ex)
      cases r1' with
      | lst z1 ra => cases r2 with
        | lst z2 rb =>
          rename_i q1 vs q2 us
          have l1 := RdD.lst (h2.sub _ _ (fF_ex _ _ z1))
          have l2 := RdD.lst (h2.sub _ _ (fF_ex _ _ z2))
          refine ⟨q1, q2, vs, us, rfl, .inl ⟨sql_of l1, sql_of l2, ?_⟩⟩
          refine iq _ F2 H2 Γ2 _ _ h2 (x1.trans x2) (fun i F' H' σ' Γ' xF h' _ => ?_) w2
          have s1 := RdD.lst (h'.sub _ _ (xF _ _ (fF_ex _ _ z1)))
          have s2 := RdD.lst (h'.sub _ _ (xF _ _ (fF_ex _ _ z2)))
          refine ⟨fun d fd hi => ?_, fun hi => ⟨vs, us, sql_of s1, sql_of s2, ?_⟩⟩
          · obtain ⟨y, z, hy, hz, ed, ef⟩ := zip_get hi
            subst ed
            subst ef
            obtain ⟨y', ey, ry⟩ := ra.get hy
            obtain ⟨z', ez, rz⟩ := rb.get hz
            refine ⟨⟨vs, us, y', z', sql_of s1, sql_of s2, ey, ez⟩, fun x H2' hyl => ?_⟩
            obtain ⟨T, y2, z2', e3, hT, eH, k1, k2⟩ := hyl
            have q1 := k1 _ (sql_of s1)
            rw [ey] at q1
            cases q1
            have q2 := k2 _ (sql_of s2)
            rw [ez] at q2
            cases q2
            subst e3
            subst eH
            obtain ⟨h3, x3, at_⟩ := h'.newF (o := .tup [y', z']) hT
            refine ⟨_, x3.ex, Ex.new hT, h3.sub, fun a u z => ?_, ?_⟩
            · by_cases ha : a = T
              · rw [ha]; exact .inr hT
              · rw [upd_ne ha] at z
                exact .inl z
            · have ry' : Rpf R (upd F' T (.tup [y', z'])) f y' y := Rp.mono (fF_mono (xF.trans x3.ex)) ry
              have rz' : Rpf R (upd F' T (.tup [y', z'])) f2 z' z := Rp.mono (fF_mono (xF.trans x3.ex)) rz
              obtain ⟨a1, a2⟩ := rp_both (f := f) (fr := f2) (RpAll.cons ry' .nil) rz'
              cases a1 with
              | cons a1 _ => exact .tup (at_ _) (.cons a1 (.cons a2 .nil))
          · unfold zipD at hi
            rw [List.length_map, List.length_zip] at hi
            rw [ra.length, rb.length]
            omega
    | _ => exact w2.elim
  | _ => exact w2.elim

/-! ### slices -/
abbrev WO := EX → En → (Option Int → En → Prop) → Prop
def OQ (R : Rl) (F H : Hp) (σ : L2.St) (Γ : En) (Q : Option Int → En → Prop) (Qt : Option Int → Hp → Prop) : Prop := ∀ o F' H' Γ', Hd R F' H' σ Γ' → Nx σ F H Γ F' H' Γ' → Q o Γ' → Qt o H'
def PWO (X : Cx) (E : XK) (e : Option Expr) (w : WO) : Prop := ∃ t : TO, PO X e t ∧ ∀ (R : Rl) (F H : Hp) (σ : L2.St) (Γ : En) (ex : EX) Q Qt, Go X R E ex → Hd R F H σ Γ → OQ R F H σ Γ Q Qt → w ex Γ Q → t σ H Qt
@[reducible] def wNoP : WO := fun _ Γ Q => Q none Γ
@[reducible] def wPart (we : WE) : WO := fun ex Γ Q => we ex Γ fun d _ Γ1 => match d with
  | .int i => Q (some i) Γ1
  | _ => False
theorem pwo_none : PWO X E none wNoP := ⟨_, po_none, fun R F H σ Γ ex Q Qt g h eq w => eq none F H Γ h Nx.refl w⟩
theorem pwo_some (ha : PWE X E a wa) : PWO X E (some a) (wPart wa) := by
  obtain ⟨ta, pa, ka⟩ := ha
  refine ⟨_, po_some pa, fun R F H σ Γ ex Q Qt g h eq w => ka R F H σ Γ ex _ _ g h (fun v F1 H1 Γ1 d fr h1 x1 r1 w1 => ?_) w⟩
  cases d with
  | int i => exact ⟨i, rp_int r1, eq _ F1 H1 Γ1 h1 x1 w1⟩
  | _ => exact w1.elim
def cutD (xs : List D) (lo hi : Option Int) : List D := (xs.drop (HT.sIx xs.length 0 lo)).take (HT.sIx xs.length xs.length hi - HT.sIx xs.length 0 lo)
theorem rp_cut {F : Hp} {vs : List V} {ds : List D} (r : RpAll F vs ds) (lo hi : Option Int) : RpAll F (cutV vs lo hi) (cutD ds lo hi) := by
  unfold cutV cutD
  rw [r.length]
  exact (r.drop _).take _
@[reducible] def wSl (va : WV) (wl wh : WO) : WE := fun ex Γ Q => va ex Γ fun vw Γ1 => wl ex Γ1 fun lo Γ2 => wh ex Γ2 fun hi Γ3 => match lkV Γ3 vw with
  | some (.lst ds, fr) => Q (.lst (cutD ds lo hi)) fr Γ3
  | _ => False
variable {lo hi : Option Expr} {wl wh : WO}
theorem pw_sl (ha : PWV X E a va) (hl : PWO X E lo wl) (hh : PWO X E hi wh) : PWE X E (.Subscript a (.Slice lo hi none p2) pos) (wSl va wl wh) := by
  obtain ⟨ta, pa, ka⟩ := ha
  obtain ⟨tl, pl, kl⟩ := hl
  obtain ⟨th, ph, kh⟩ := hh
  refine ⟨_, pe_slice sl_list pa pl ph, fun R F H σ Γ ex Q Qt g h eq w => ?_⟩
  refine ka R F H σ Γ ex _ _ g h (fun v F1 H1 Γ1 vw h1 x1 r1 w1 => kl R F1 H1 σ Γ1 ex _ _ g h1 (fun o1 F2 H2 Γ2 h2 x2 w2 => kh R F2 H2 σ Γ2 ex _ _ g h2 (fun o2 F3 H3 Γ3 h3 x3 w3 => ?_) w2) w1) w
  cases l : lkV Γ3 vw with
  | none => simp only [l] at w3
  | some q =>
    obtain ⟨d, fr⟩ := q
    cases d with
    | lst ds =>
      simp only [l] at w3
      obtain ⟨q, vs, e1, e2, r⟩ := vw_sees h3 (r1.mono (x2.trans x3).ex) l
      refine ⟨q, vs, e1, sql_of e2, fun y hy => ?_⟩
      obtain ⟨h4, x4, at_⟩ := h3.newF (o := .lst (cutV vs o1 o2)) hy
      exact eq _ _ _ Γ3 _ fr h4 (((x1.trans x2).trans x3).trans x4) (.lst (at_ _) ((rp_cut r o1 o2).mono (fF_mono x4.ex))) w3
    | _ => simp only [l] at w3
theorem pn_sl (ha : PWV X E a va) (hl : PWO X E lo wl) (hh : PWO X E hi wh) : PWN X E (.Subscript a (.Slice lo hi none p2) pos) (wSl va wl wh) := by
  obtain ⟨ta, pa, ka⟩ := ha
  obtain ⟨tl, pl, kl⟩ := hl
  obtain ⟨th, ph, kh⟩ := hh
  refine ⟨_, pe_slice sl_list pa pl ph, fun R F H σ Γ ex Q Qt g h eq w => ?_⟩
  refine ka R F H σ Γ ex _ _ g h (fun v F1 H1 Γ1 vw h1 x1 r1 w1 => kl R F1 H1 σ Γ1 ex _ _ g h1 (fun o1 F2 H2 Γ2 h2 x2 w2 => kh R F2 H2 σ Γ2 ex _ _ g h2 (fun o2 F3 H3 Γ3 h3 x3 w3 => ?_) w2) w1) w
  cases l : lkV Γ3 vw with
  | none => simp only [l] at w3
  | some q =>
    obtain ⟨d, fr⟩ := q
    cases d with
    | lst ds =>
      simp only [l] at w3
      obtain ⟨q, vs, e1, e2, r⟩ := vw_sees h3 (r1.mono (x2.trans x3).ex) l
      refine ⟨q, vs, e1, sql_of e2, fun y hy => ?_⟩
      obtain ⟨h4, f4, z4, n4⟩ := h3.newO (o := .lst (cutV vs o1 o2)) hy
      exact eq y F3 _ Γ3 (.lst _) fr h4 (((x1.trans x2).trans x3).newO hy) (((x1.trans x2).trans x3).was hy) ⟨y, rfl, f4, z4, _, upd_same, rp_cut r o1 o2⟩ n4 w3
    | _ => simp only [l] at w3
/-- the script's first cells -/
@[reducible] def wSlScr (i : Nat) (wh : WO) : WE := fun ex Γ Q => match gt Γ i with
  | some (.scr ns) => wh ex Γ fun hi Γ1 => Q (.lst (cutD (ns.map .int) none hi)) true Γ1
  | _ => False
theorem SqL.at_ {K : PySem.W.Frag} {H H' : Hp} {a : Addr} {xs : List V} (h : SqL K H a xs) (k : ∀ o, H a = some o → H' a = some o) : SqL K H' a xs := by
  rcases h with h | h
  · rcases h with h | ⟨o, h⟩
    · exact .inl (.inl (k _ h))
    · exact .inl (.inr ⟨o, k _ h⟩)
  · exact .inr h
theorem pw_slScr (i : Nat) {px : Pos} (hh : PWO X E hi wh) (hN : X.N[i]? = some x := by rfl) (hv : Vis X.env.scope x := by first | exact Or.inl rfl | exact Or.inr (Or.inl rfl) | exact Or.inr (Or.inr rfl)) (hd : (x == ("__debug__" : Str)) = false := by decide) (hcd : (x == ("__classdict__" : Str)) = false := by decide) :
    PWE X E (.Subscript (.Name x px) (.Slice none hi none p2) pos) (wSlScr i wh) := by
  obtain ⟨th, ph, kh⟩ := hh
  refine ⟨_, pe_slice sl_list (pe_var hN hv hd hcd) po_none ph, fun R F H σ Γ ex Q Qt g h eq w => ?_⟩
  unfold wSlScr at w
  cases q : gt Γ i with
  | none => simp only [q] at w
  | some s =>
    obtain ⟨v, e1, ok⟩ := h.sl i s q
    cases s with
    | scr ns =>
      simp only [q] at w
      obtain ⟨a, e2, na, sq⟩ := ok
      refine ⟨v, e1, kh R F H σ Γ ex _ _ g h (fun o F3 H3 Γ3 h3 x3 w3 => ?_) w⟩
      refine ⟨a, ns.map V.int, e2, by rw [← g.K]; exact SqL.at_ sq fun o e => h3.base a o e na, fun y hy => ?_⟩
      obtain ⟨h4, x4, at_⟩ := h3.newF (o := .lst (cutV (ns.map V.int) none o)) hy
      exact eq _ _ _ Γ3 _ true h4 (x3.trans x4) (.lst (at_ _) (rp_cut (RpAll.ints ns) none o)) w3
    | _ => simp only [q] at w
end
end Y

/-! Y: part 14: pairs of names at once, repr, calls by keywords, slices by a step. -/
namespace Y
open PySem PySem.Spec PyProof.Rows L2

/-! ### what goes into a slot -/
def MQ (R : Rl) (F H : Hp) (σ : L2.St) (Γ : En) (Q : Sl → En → Prop) (Qt : VK) : Prop := ∀ v F' H' Γ' s, Hd R F' H' σ Γ' → Nx σ F H Γ F' H' Γ' → SlOk R F' H' v s → (owny s = true → ∃ p o fr, v = .ref p ∧ s = .own o fr ∧ H p = none ∧ ¬ Ow σ Γ' p) → ((∃ d fr, s = .dat d fr) ∨ ∃ o fr, s = .own o fr) → Q s Γ' → Qt v H'
abbrev WM := EX → En → (Sl → En → Prop) → Prop
def PWM (X : Cx) (E : XK) (e : Expr) (w : WM) : Prop := ∃ te : TE, PE X e te ∧ ∀ (R : Rl) (F H : Hp) (σ : L2.St) (Γ : En) (ex : EX) Q Qt, Go X R E ex → Hd R F H σ Γ → MQ R F H σ Γ Q Qt → w ex Γ Q → te σ H Qt
@[reducible] def wDat (we : WE) : WM := fun ex Γ Q => we ex Γ fun d fr Γ' => Q (.dat d fr) Γ'
@[reducible] def wOwn (we : WE) : WM := fun ex Γ Q => we ex Γ fun d fr Γ' => Q (.own d fr) Γ'
section
variable {X : Cx} {E : XK} {e a b c : Expr} {es : List Expr} {pos p p2 : Pos} {x y z : Str} {wa wb wc : WE} {va vb : WV} {ma mb mc : WM}
theorem pm_dat (h : PWE X E e wa) : PWM X E e (wDat wa) := by
  obtain ⟨t, pt, kt⟩ := h
  exact ⟨t, pt, fun R F H σ Γ ex Q Qt g h eq w => kt R F H σ Γ ex _ _ g h (fun v F' H' Γ' d fr h' x r q => eq v F' H' Γ' (.dat d fr) h' x r (fun z => by cases z) (.inl ⟨_, _, rfl⟩) q) w⟩
theorem pm_own (h : PWN X E e wa) : PWM X E e (wOwn wa) := by
  obtain ⟨t, pt, kt⟩ := h
  exact ⟨t, pt, fun R F H σ Γ ex Q Qt g h eq w => kt R F H σ Γ ex _ _ g h (fun p F' H' Γ' o fr h' x hp r n q => eq _ F' H' Γ' (.own o fr) h' x r (fun _ => ⟨p, o, fr, rfl, rfl, hp, n⟩) (.inr ⟨_, _, rfl⟩) q) w⟩
/-- a slot's content stays while another is made -/
theorem sl_stay {R : Rl} {F H F' H' : Hp} {σ : L2.St} {Γ Γ' : En} {v : V} {s : Sl} (ok : SlOk R F H v s) (hs : (∃ d fr, s = .dat d fr) ∨ ∃ o fr, s = .own o fr) (hn : ∀ p, v = .ref p → owny s = true → ¬ Ow σ Γ p) (x : Nx σ F H Γ F' H' Γ') : SlOk R F' H' v s := by
  rcases hs with ⟨d, fr, e⟩ | ⟨o, fr, e⟩
  · subst e
    exact Rp.mono (fF_mono x.ex) ok
  · subst e
    obtain ⟨p, e1, e2, e3, t⟩ := ok
    have no := hn p e1 rfl
    obtain ⟨u, hu⟩ := t.there
    refine ⟨p, e1, ?_, e3, t.mono (fF_mono x.ex) fun u k => x.keep _ _ k no⟩
    cases q : F' p with
    | none => rfl
    | some w =>
      rcases x.new p w q with z | z | z
      · rw [e2] at z; cases z
      · rw [hu] at z; cases z
      · exact absurd z no
theorem put_any {R : Rl} {F H : Hp} {σ : L2.St} {Γ : En} (h : Hd R F H σ Γ) {i : Nat} {v : V} {s : Sl} (ok : SlOk R F H v s) (hs : (∃ d fr, s = .dat d fr) ∨ ∃ o fr, s = .own o fr) (hn : ∀ p, v = .ref p → owny s = true → ¬ Ow σ Γ p) : Hd R F H (σ.set i (some v)) (st Γ i (some s)) := by
  rcases hs with ⟨d, fr, e⟩ | ⟨o, fr, e⟩
  · subst e
    exact h.put ok rfl
  · subst e
    obtain ⟨p, e1, e2⟩ := id ok
    subst e1
    exact h.putOwn ok (hn p rfl rfl)
theorem ow_putA {σ : L2.St} {Γ : En} {i : Nat} {v : V} {s : Sl} {q : Addr} (hq : v ≠ .ref q) (h : Ow (σ.set i (some v)) (st Γ i (some s)) q) : Ow σ Γ q := by
  obtain ⟨j, t, e1, e2, e3⟩ := h
  by_cases hj : j = i
  · subst hj
    by_cases hl : j < σ.length
    · rw [List.getElem?_set_self hl] at e3
      cases e3
      exact absurd rfl hq
    · rw [List.getElem?_eq_none (by simpa using hl)] at e3
      cases e3
  · rw [gt_st_ne hj] at e1
    rw [List.getElem?_set_ne (Ne.symm hj)] at e3
    exact ⟨j, t, e1, e2, e3⟩
@[reducible] def wPar (i j : Nat) (ma mb : WM) : WS := fun P Γ => ma P.xe Γ fun s Γ1 => mb P.xe Γ1 fun t Γ2 => P.nx (st (st Γ2 i (some s)) j (some t))
theorem ow_dat {R : Rl} {F H F' H' : Hp} {σ : L2.St} {Γ : En} {v : V} {s : Sl} (k : owny s = true → ∃ p o fr, v = .ref p ∧ s = .own o fr ∧ H p = none ∧ ¬ Ow σ Γ p) : ∀ p, v = .ref p → owny s = true → ¬ Ow σ Γ p := fun p e o => by
  obtain ⟨q, _, _, e2, _, _, n⟩ := k o
  rw [e] at e2
  cases e2
  exact n
theorem pws_par {px py pt : Pos} {kt k2 pt2} (i j : Nat) (ha : PWM X E a ma) (hb : PWM X E b mb) (hij : i ≠ j) (hc : X.calm = true) (hN : X.N.Nodup) (hw : swappedStores [.Tuple [.Name x px, .Name y py] kt pt] (.Tuple [a, b] k2 pt2) X.env = pure (some [x, y])) (hi : X.N[i]? = some x := by rfl) (hj : X.N[j]? = some y := by rfl)
    (hx : X.env.scope.names.lookup x = some .local := by rfl) (hy : X.env.scope.names.lookup y = some .local := by rfl)
    (hs : swapsWithSole [.Tuple [.Name x px, .Name y py] kt pt] (.Tuple [a, b] k2 pt2) pos.line X.env = pure false := by rfl)
    (he : starEach (a :: [b]) X.env = (false, eval a X.env) :: starEach [b] X.env := by rfl) (he2 : starEach (b :: []) X.env = (false, eval b X.env) :: starEach [] X.env := by rfl) :
    PWS X E (.Assign [.Tuple [.Name x px, .Name y py] kt pt] (.Tuple [a, b] k2 pt2) pos) (wPar i j ma mb) := by
  obtain ⟨ta, pa, ka⟩ := ha
  obtain ⟨tb, pb, kb⟩ := hb
  refine ⟨_, ps_par hc hN hi hj hij hx hy (pa_cons pa (pa_cons pb pa_nil he2) he) hw hs, fun R F H σ Γ P T g h s w => ?_⟩
  refine ka R F H σ Γ P.xe _ _ g h (fun v F1 H1 Γ1 s1 h1 x1 ok1 o1 c1 w1 => kb R F1 H1 σ Γ1 P.xe _ _ g h1 (fun u F2 H2 Γ2 s2 h2 x2 ok2 o2 c2 w2 => ?_) w1) w
  have n1 := ow_dat (R := R) (F := F) (F' := F1) (H' := H1) o1
  have n2 := ow_dat (R := R) (F := F1) (F' := F2) (H' := H2) o2
  have ok1' := sl_stay ok1 c1 n1 x2
  have n1' : ∀ p, v = .ref p → owny s1 = true → ¬ Ow σ Γ2 p := fun p e o z => n1 p e o (x2.ow p z)
  have h3 := put_any (i := i) h2 ok1' c1 n1'
  refine ⟨v, u, rfl, s.nx F2 H2 _ _ (put_any (i := j) h3 ok2 c2 fun p e o z => ?_) (x1.trans x2).ex w2⟩
  rcases c1 with ⟨d, fr, es⟩ | ⟨o', fr, es⟩
  · subst es
    exact n2 p e o (ow_put rfl h2.len z)
  · refine n2 p e o (ow_putA (fun ev => ?_) z)
    obtain ⟨q, _, _, e2, _, hq, _⟩ := o2 o
    rw [e] at e2
    cases e2
    subst ev
    subst es
    obtain ⟨q, e1, _, _, t⟩ := ok1
    cases e1
    obtain ⟨u, hu⟩ := t.there
    rw [hu] at hq
    cases hq

/-! ### repr -/
@[reducible] def kRepr : K1 := fun d _ Q => match d with
  | .lst _ => (plain d = true ∧ (pd d).showable = true ∧ (pd d).depth ≤ 60 ∧ (pd d).shown.length ≤ sizeLine) ∧ Q (.str (pd d).shown) true
  | .tup _ => (plain d = true ∧ (pd d).showable = true ∧ (pd d).depth ≤ 60 ∧ (pd d).shown.length ≤ sizeLine) ∧ Q (.str (pd d).shown) true
  | _ => False
def rReprD (K : PySem.W.Frag) : List V → Hp → VK → Prop := fun vs H Q => ∃ (a : Addr) (d : PyData), vs = [V.ref a] ∧ Dp K H (.ref a) d ∧ d.showable = true ∧ d.hasDict = false ∧ d.depth ≤ 60 ∧ d.shown.length ≤ sizeLine ∧ Q (.str d.shown) H
theorem cr_reprD (hg : X.A.guards = some []) (hu : X.A.units + 64 < cLine) : CallR X (.builtin "repr") (rReprD X.K) := by
  intro pins s σ H vs us Q I r h
  obtain ⟨a, d, rfl, hd, h1, h2, h3, h4, q⟩ := h
  rw [Vals.ref1 r]
  obtain ⟨as, rd⟩ := Dp.reads I _ _ (.ref a) hd rfl
  refine PySem.repr_of_reads' rd h1 (PyData.noDict_hsm h2) hg (by omega) (fun b o e => e) (fun h' u tk k => ?_) h4
  exact ⟨.str d.shown, H, I.kept k, ⟨u, rfl⟩, q⟩
theorem o_repr (hg : X.A.guards = some []) (hu : X.A.units + 64 < cLine) : CallR X (.builtin "repr") (rReprD X.K) ∧ OC1 X (rReprD X.K) kRepr := by
  refine ⟨cr_reprD hg hu, fun R F H σ Γ v d fr Q Qt hK h s eq k => ?_⟩
  cases d with
  | lst ds =>
    obtain ⟨⟨k1, k2, k3, k4⟩, k⟩ := k
    have dp := dp_lst (K := X.K) h.sub s k1
    obtain ⟨p, vs, e1, _⟩ := s
    subst e1
    exact ⟨p, _, rfl, dp, k2, PyData.hasDict_of_canLay _ (canLay_pd _ k1), k3, k4, eq _ F H _ true h Nx.refl (.str _) k⟩
  | tup ds =>
    obtain ⟨⟨k1, k2, k3, k4⟩, k⟩ := k
    have dp := sees_dp (K := X.K) h.sub s k1
    obtain ⟨p, vs, e1, _⟩ := s
    subst e1
    exact ⟨p, _, rfl, dp, k2, PyData.hasDict_of_canLay _ (canLay_pd _ k1), k3, k4, eq _ F H _ true h Nx.refl (.str _) k⟩
  | _ => exact k.elim

/-! ### calls by keywords alone -/
/-- the values in the parameters' order -/
def pmG {α : Type} (ix : List Nat) (l : List α) : List α := ix.filterMap (l[·]?)
theorem pm_vals {vs : List V} {us : List Value} (r : Vals vs us) : ∀ ix : List Nat, Vals (pmG ix vs) (pmG ix us)
  | [] => .nil
  | i :: ix => by
    have ih := pm_vals r ix
    unfold pmG at ih ⊢
    rw [List.filterMap_cons, List.filterMap_cons]
    cases q : vs[i]? with
    | none =>
      have l := r.length
      have q2 : us[i]? = none := by
        rw [List.getElem?_eq_none_iff] at q ⊢
        omega
      simp only [q2]
      exact ih
    | some v =>
      obtain ⟨u, e, ru⟩ := r.get q
      simp only [e]
      exact .cons ru ih
theorem pm_rp {F : Hp} {vs : List V} {ds : List D} (r : RpAll F vs ds) : ∀ ix : List Nat, RpAll F (pmG ix vs) (pmG ix ds)
  | [] => .nil
  | i :: ix => by
    have ih := pm_rp r ix
    unfold pmG at ih ⊢
    rw [List.filterMap_cons, List.filterMap_cons]
    cases q : vs[i]? with
    | none =>
      have l := r.length
      have q2 : ds[i]? = none := by
        rw [List.getElem?_eq_none_iff] at q ⊢
        omega
      simp only [q2]
      exact ih
    | some v =>
      obtain ⟨d, e, rd⟩ := r.get' q
      simp only [e]
      exact .cons rd ih
/-- how a call by keywords alone binds -/
def KBnd (K : PySem.W.Frag) (fd : FuncData) (ps ks : List Str) (ix : List Nat) : Prop := ∀ (s : Shared) (ws : List Value), K.In s.heap → ws.length = ks.length → BindsTo s fd ⟨[], ks.zip ws⟩ (ps.zip (pmG ix ws))
/-- the keywords' values -/
def PWK (X : Cx) (E : XK) (kws : List Keyword) (w : WA) : Prop := ∃ te : TA, PK X kws te ∧ SA X E te w
theorem pwk_nil : PWK X E [] wNil := ⟨_, pk_nil, fun R F H σ Γ ex Q Qt g h eq w => eq [] F H Γ [] h Nx.refl .nil w⟩
theorem pwk_cons {kws : List Keyword} {nm : Option Str} {kpos : Pos} {wr : WA} (ha : PWE X E e wa) (hr : PWK X E kws wr) : PWK X E (⟨nm, e, kpos⟩ :: kws) (wCons wa wr) := by
  obtain ⟨t, pt, kt⟩ := ha
  obtain ⟨u, pu, ku⟩ := hr
  exact ⟨_, pk_cons pt pu, fun R F H σ Γ ex Q Qt g h eq w => kt R F H σ Γ ex _ _ g h (fun v F1 H1 Γ1 d fr h1 x1 r1 w1 => ku R F1 H1 σ Γ1 ex _ _ g h1
    (fun vs F2 H2 Γ2 ds h2 x2 r2 q => eq (v :: vs) F2 H2 Γ2 ((d, fr) :: ds) h2 (x1.trans x2) (.cons (r1.mono (fF_mono x2.ex)) r2) q) w1) w⟩
@[reducible] def wCallK (ix : List Nat) (fs : FS) (wr : WA) : WE := fun ex Γ Q => wr ex Γ fun ds Γ1 => ds.length = ix.length ∧ fs (pmG ix (ds.map (·.1))) (fun d fr => Q d fr Γ1) ex
theorem pw_callK {k : Nat} {f : Addr} {fd : FuncData} {ps ks : List Str} {fs : FS} {wr : WA} {kws : List Keyword} {ix : List Nat} (Fn : FnG X.prog X.w X.K X.mg X.base k f fd ps (spF X.mg fs)) (hgd : X.A.guards = some []) (hr : Room k X.A) (hm : X.mg x = some (.ref f)) (hk : PySem.W.keepIn X.K (.ref f) = true) (hb : KBnd X.K fd ps ks ix)
    (hx : Passes (L2.CX X.prog X.w) X E) (ha : PWK X E kws wr) (hl : ks.length = ix.length := by rfl) (hg : Gl X x := by rfl) (hall : (backToKw pos (keywordEach kws X.env)).all (·.1.isSome) = true := by rfl) (hks : (backToKw pos (keywordEach kws X.env)).filterMap (·.1) = ks := by rfl)
    (hdb : (x == ("__debug__" : Str)) = false := by decide) (hpl : ((backTo pos (starEach [] X.env)).any (·.1) || (backToKw pos (keywordEach kws X.env)).any (·.1.isNone)) = false := by rfl) :
    PWE X E (.Call (.Name x p) [] kws pos) (wCallK ix fs wr) := by
  obtain ⟨t, pt, kt⟩ := ha
  refine ⟨fun σ H Q => t σ H fun vs H1 => vs.length = ix.length ∧ spF X.mg fs (pmG ix vs) H1 Q E, ?_, fun R F H σ Γ ex Q Qt g h eq w => ?_⟩
  · refine ⟨fun pins s σ H Q I h => ?_⟩
    refine wpAny_Call_Name_kw (ld_glob I hg hm ?_ hdb)
    refine PySem.W.callWith_KW0 (h₀ := X.base) I.ok.mod.kin hk hall (thn (pt.run pos pins s σ H _ I h) fun ws s1 ⟨vs, H1, I1, r, hlen, q⟩ => ⟨I1.kIn, ?_⟩) hpl
    rw [hks]
    have r2 := pm_vals r ix
    have hws : ws.length = ks.length := by rw [← r.length, hlen, hl]
    have n := Fn.many _ _ _ _ q
    show wpAny _ _ (call (.ref f) [] (ks.zip ws)) _ _ _
    refine wpAny_call (codeAny_mono (Fn.go (args := ⟨[], ks.zip ws⟩) hgd hr I1.env0 (hb s1 ws I1.kIn hws) r2 q) fun r s' hq => ?_)
    match r, hq with
    | .error e, hq => exact hx pins σ H1 s1 e s' I1 hq
    | .ok (.ret u), hq => exact I1.after hq
  · refine kt R F H σ Γ ex _ _ g h (fun vs F1 H1 Γ1 ds h1 x1 r1 w1 => ⟨by rw [r1.length]; exact w1.1, ?_⟩) w
    refine ⟨F1, pmG ix (ds.map (·.1)), _, ex, h1.sub, pm_rp r1.plain ix, w1.2, fun v F2 H2 d fr xH xF sub new r q => ?_, fun c C dd v d F2 H2 hm hex xH xF sub r hd => ?_⟩
    · obtain ⟨h2, r2⟩ := h1.called xH xF sub new r
      exact eq v F2 H2 Γ1 d fr h2 (x1.trans (.grow xF xH new)) r2 q
    · exact g.lk c C dd v d F2 H2 hm hex (fun a o e n => xH a o (h1.base a o e n)) (fun a o e => xF a o (h1.f0 a o e)) sub r hd

/-! ### xs[::k] -/
def pickL {α : Type} (xs : List α) (st : Option Int) : List α := (sliceRange (sliceBounds none none st xs.length).1 (sliceBounds none none st xs.length).2.1 (sliceBounds none none st xs.length).2.2).filterMap (xs[·]?)
theorem pick_vals {vs : List V} {us : List Value} (r : Vals vs us) (st : Option Int) : Vals (pickL vs st) (slicePick us.toArray none none st).toList := by
  have e : (slicePick us.toArray none none st).toList = pmG (sliceRange (sliceBounds none none st vs.length).1 (sliceBounds none none st vs.length).2.1 (sliceBounds none none st vs.length).2.2) us := by
    simp [slicePick, pmG, r.length]
  rw [e]
  exact pm_vals r _
@[reducible] def wSlK (va : WV) (wk : WE) : WE := fun ex Γ Q => va ex Γ fun vw Γ1 => wk ex Γ1 fun d _ Γ2 => match lkV Γ2 vw, d with
  | some (.lst ds, fr), .int k => k ≠ 0 ∧ Q (.lst (pickL ds (some k))) fr Γ2
  | _, _ => False
theorem pw_slK (ha : PWV X E a va) (hb : PWE X E b wb) : PWE X E (.Subscript a (.Slice none none (some b) p2) pos) (wSlK va wb) := by
  obtain ⟨ta, pa, ka⟩ := ha
  obtain ⟨tb, pb, kb⟩ := hb
  refine ⟨fun σ H Q => ta σ H fun x H1 => tb σ H1 fun y H2 => ∃ a xs k, x = .ref a ∧ y = .int k ∧ SqL X.K H2 a xs ∧ k ≠ 0 ∧ ∀ p, H2 p = none → Q (.ref p) (upd H2 p (.lst (pickL xs (some k)))), ?_, fun R F H σ Γ ex Q Qt g h eq w => ?_⟩
  · refine ⟨fun pins s σ H Q I h => ?_⟩
    refine Subscript_ (thn (pa.run pins s σ H _ I h) fun v s1 ⟨x, H1, I1, r1, q1⟩ => ?_)
    refine wpAny_Slice ?_
    rw [evalPart_none]
    refine wpAny_pure ?_
    refine wpAny_pure ?_
    rw [evalPart_some]
    refine thn (pb.run pins s1 σ H1 _ I1 q1) fun ku s3 ⟨y, H3, I3, ry, q, xs, k, e1, e2, sq, k0, q3⟩ => ?_
    subst e1
    subst e2
    obtain rfl : v = Value.ref q := r1
    obtain ⟨tk, rfl⟩ := ry
    have I4 : Inv X pins σ H3 { s3 with heap := s3.heap.push { cls := .type "slice", data := .fields #[.none, .none, .int k tk] } } := I3.kept (t' := s3.toks) fun b ob q => Heap.get?_push_of_some _ q
    obtain ⟨its, r, ht, hz⟩ := I4.list sq
    have hlen := r.length
    show wpAny (model X.prog X.w) X.A (subscriptTail a (.Slice none none (some b) p2) (.ref q) (.ref s3.heap.objs.size)) (EP X pins σ Q) X.xe { s3 with heap := s3.heap.push { cls := .type "slice", data := .fields #[.none, .none, .int k tk] } }
    refine PyProof.Rows.tail_any (ops := [.ref q, .ref s3.heap.objs.size]) ht.isList.typeIs PySem.list_getitem_lookup ?_ (by rfl)
    refine wpAny_getItem_list_slice ht.isList (Heap.IsSliceOf.new ..) .none .none (.int k tk) (fun z => k0 (Option.some.inj z)) ?_ (by rw [List.size_toArray] <;> omega)
    refine ⟨.ref _, _, I4.laid (t' := s3.toks) (o := .lst (pickL xs (some k))) (fun b ob q => Heap.get?_push_of_some _ q) (Nat.le_refl _) ?_, rfl, q3 _ (I4.hok.fresh (Nat.le_refl _))⟩
    have pv := pick_vals r (some k)
    have sz := slicePick_size_le its.toArray none none (some k)
    refine ⟨?_, _, 0, pv, Heap.get?_push_size _ rfl⟩
    have e1 : (pickL xs (some k)).length = (slicePick its.toArray none none (some k)).size := by rw [pv.length, Array.length_toList]
    have e2 : its.toArray.size = its.length := List.size_toArray
    omega
  · refine ka R F H σ Γ ex _ _ g h (fun v F1 H1 Γ1 vw h1 x1 r1 w1 => kb R F1 H1 σ Γ1 ex _ _ g h1 (fun y F2 H2 Γ2 dy fy h2 x2 r2 w2 => ?_) w1) w
    cases l : lkV Γ2 vw with
    | none => simp only [l] at w2
    | some q =>
      obtain ⟨d, fr⟩ := q
      cases d with
      | lst ds => cases dy with
        | int k =>
          simp only [l] at w2
          obtain ⟨q, vs, e1, e2, r⟩ := vw_sees h2 (r1.mono x2.ex) l
          refine ⟨q, vs, k, e1, rp_int r2, sql_of e2, w2.1, fun y hy => ?_⟩
          obtain ⟨h4, x4, at_⟩ := h2.newF (o := .lst (pickL vs (some k))) hy
          have rr : RpAll (fF R F2 fr) (pickL vs (some k)) (pickL ds (some k)) := by
            have z := pm_rp r (sliceRange (sliceBounds none none (some k) vs.length).1 (sliceBounds none none (some k) vs.length).2.1 (sliceBounds none none (some k) vs.length).2.2)
            unfold pickL
            rw [← r.length]
            exact z
          exact eq _ _ _ Γ2 _ fr h4 ((x1.trans x2).trans x4) (.lst (at_ _) (rr.mono (fF_mono x4.ex))) w2.2
        | _ => simp only [l] at w2
      | _ => simp only [l] at w2
end
end Y

/-! Y: part 15: the law's own call, the end of a law. -/
namespace Y
open PySem PySem.Spec PyProof.Rows L2

/-- the law's promise: told of the script alone -/
theorem law_go {P : Program} {w : World} {K : PySem.W.Frag} {mg mb : Str → Option Value} {k : Nat} {fa a : Addr} {fd : FuncData} {x : Str} {sp : Sp} {s₁ : Shared} {vs : List Value} {ns : List Int}
    (KX : K.In s₁.heap) (hns : s₁.heap.Ns mainGlobals mg) (hb : s₁.heap.Ns builtinsNs mb) (hbb : ∀ x : Str, x ≠ "__name__" → mb x = bootBuiltins x) (hlim : s₁.heap.NoLimit) (hg : s₁.gens = #[])
    (ha : s₁.heap.get? a = some { cls := .type "list", data := .seq vs.toArray }) (hi : IntsAre vs ns) (hl : ns.length ≤ sizeLine) (hr : Room k callerA)
    (F : ∀ base : Heap, K.In base → base.Ns mainGlobals mg → FnG P w K mg base k fa fd [x] sp) (hbind : ∀ (s : Shared) (u : Value), BindsTo s fd ⟨[u], []⟩ [(x, u)])
    (hsp : ∀ H : Hp, Only H → SqL K H a (ns.map V.int) → sp [.ref a] H (fun v _ => v = .bl true) fun _ _ _ => False) :
    codeAny (model P w) callerA (.call (.ref fa) ⟨[.ref a], []⟩) (fun r s' => r = .ok (.ret (.bool true)) ∧ OldK s₁.heap s'.heap ∧ s'.os = s₁.os ∧ AllBare s'.gens) s₁ := by
  have rv := vals_ints hi
  have core : ∀ H : Hp, Only H → SqL K H a (ns.map V.int) → HOk P w H s₁.heap → (∀ b, H b ≠ none → b = a) → (H a ≠ none → K.lookup a = none) →
      codeAny (model P w) callerA (.call (.ref fa) ⟨[.ref a], []⟩) (fun r s' => r = .ok (.ret (.bool true)) ∧ OldK s₁.heap s'.heap ∧ s'.os = s₁.os ∧ AllBare s'.gens) s₁ := fun H hO hS hok hA hK => by
    have notA : ∀ {b : Addr}, (∀ o, s₁.heap.get? b = some o → b = a → False) → ∀ {o}, s₁.heap.get? b = some o → H b = none := fun {b} n {o} e => by
      cases q : H b with
      | none => rfl
      | some u => exact (n o e (hA b (by rw [q]; simp))).elim
    have nsK : ∀ {b : Addr} {m : Str → Option Value}, s₁.heap.Ns b m → (hidT s₁.heap H).Ns b m := fun {b m} ⟨o, es, ep, e, d, r⟩ => ⟨o, es, ep, hidT_get e (notA (fun o' e' z => by
      subst z
      rw [e] at e'
      cases e'
      rw [ha] at e
      cases e
      have d' : Data.seq vs.toArray _ = Data.dict es ep := d
      cases d') e), d, r⟩
    have hKb : K.In (hidT s₁.heap H) := fun b o e => hidT_get (KX b o e) (by
      cases q : H b with
      | none => rfl
      | some u =>
        have e' : b = a := hA b (by rw [q]; simp)
        subst e'
        rw [hK (by rw [q]; simp)] at e
        cases e)
    have hM : Mod K mg (hidT s₁.heap H) := ⟨hKb, nsK hns, ⟨mb, nsK hb, hbb⟩, hlim.elim fun mc h => ⟨mc, nsK h.1, h.2⟩⟩
    have e0 : Env0 P w K mg (hidT s₁.heap H) callerA [] s₁ H := ⟨rfl, hM, fun b o e => of_hidT e, Nat.le_of_eq (hidT_size _ _), trivial, fun b hb => (by cases hb), hok, .of_eq hg⟩
    refine codeAny_mono ((F _ hKb (nsK hns)).go (A := callerA) (outer := []) (args := ⟨[.ref a], []⟩) (us := [.ref a]) (vs := [.ref a]) rfl hr e0 (hbind s₁ (.ref a)) (.cons rfl .nil) (hsp H hO hS)) fun r s' h => ?_
    match r, h with
    | .error e, h =>
      obtain ⟨a, B, H', cls, d, e1, e2, e3, e4, e5, e6, e7, e8⟩ := h
      exact e8.elim
    | .ok .next, h => exact False.elim h
    | .ok .brk, h => exact False.elim h
    | .ok .cont, h => exact False.elim h
    | .ok (.ret u), ⟨v, H', os, bare, un, hok', r', q⟩ =>
      have q' : v = .bl true := q
      subst q'
      obtain rfl : u = Value.bool true := r'
      refine ⟨rfl, OldK.of_keep fun b o e => ?_, os, bare⟩
      cases q : H b with
      | none => exact un.keep b o e q (fun z => by cases z) (by simp)
      | some u =>
        rcases hO b with z | ⟨ob, xs, z⟩
        · rw [q] at z; cases z
        · have z2 := un.frzs b ob _ z
          obtain ⟨e1, _⟩ := hok b _ z
          obtain ⟨e2, _⟩ := hok' b _ z2
          rw [e] at e1
          cases e1
          exact e2
  cases hk : K.lookup a with
  | some o =>
    have e := KX a o hk
    rw [ha] at e
    cases e
    exact core (fun _ => none) (fun _ => .inl rfl) (.inr ⟨_, vs.toArray, _, hk, rfl, rfl, rfl, by rw [List.size_toArray, hi.length]; exact hl, by simpa using rv⟩) (fun b u z => (by have z' : (none : Option HO) = some u := z; cases z')) (fun b z => absurd rfl z) fun z => absurd rfl z
  | none =>
    have at1 : (fun b => if b = a then some (HO.frz { cls := .type "list", data := .seq vs.toArray } (.lst (ns.map V.int))) else none : Hp) a = some (.frz { cls := .type "list", data := .seq vs.toArray } (.lst (ns.map V.int))) := if_pos rfl
    have at0 : ∀ b, b ≠ a → (fun b => if b = a then some (HO.frz { cls := .type "list", data := .seq vs.toArray } (.lst (ns.map V.int))) else none : Hp) b = none := fun b hb => if_neg hb
    generalize (fun b => if b = a then some (HO.frz { cls := .type "list", data := .seq vs.toArray } (.lst (ns.map V.int))) else none : Hp) = H at at1 at0
    refine core H (fun b => ?_) (.inl (.inr ⟨_, at1⟩)) (fun b u z => ?_) (fun b z => ?_) fun _ => hk
    · by_cases hb : b = a
      · rw [hb]; exact .inr ⟨_, _, at1⟩
      · exact .inl (at0 b hb)
    · by_cases hb : b = a
      · subst hb
        rw [at1] at z
        cases z
        exact ⟨ha, by rw [List.length_map]; exact hl, vs, _, rv, ha⟩
      · rw [at0 b hb] at z
        cases z
    · by_cases hb : b = a
      · exact hb
      · exact absurd (at0 b hb) z
/-- what is asked of the law's def -/
def spLw (K : PySem.W.Frag) (n : Nat) : Sp := fun vs H Q _ => ∃ (a : Addr) (ns : List Int), vs = [.ref a] ∧ SqL K H a (ns.map V.int) ∧ ns.length ≤ n ∧ ∀ H', Q (.bl true) H'
def startL (N : List Str) (ns : List Int) : En := some (.scr ns) :: List.replicate (N.length - 1) none
theorem startL_get {N : List Str} {ns : List Int} {i : Nat} {s : Sl} (h : gt (startL N ns) i = some s) : i = 0 ∧ s = .scr ns := by
  cases i with
  | zero =>
    have h' : some (Sl.scr ns) = some s := h
    exact ⟨rfl, (Option.some.inj h').symm⟩
  | succ j =>
    have h' : gt (List.replicate (N.length - 1) none) j = some s := h
    have e := gt_get h'
    rw [List.getElem?_replicate] at e
    split at e <;> cases e
theorem Hd.startL {K : PySem.W.Frag} {H : Hp} {N : List Str} {a : Addr} {ns : List Int} (sq : SqL K H a (ns.map V.int)) : Hd ⟨K, H, H00, none⟩ H00 H (L2.start N [.ref a]) (startL N ns) where
  sub := fun a u e => by cases e
  base := fun a o e _ => e
  f0 := fun a u e => e
  new := fun a u e => .inl e
  iof := fun a e => by cases e
  len := by
    unfold Y.startL L2.start
    simp
  sl := fun i s e => by
    obtain ⟨e1, e2⟩ := startL_get e
    subst e1
    subst e2
    exact ⟨.ref a, rfl, a, rfl, (fun z => by cases z), sq⟩
  sep := fun i j s t q e1 e2 o1 o2 p1 p2 => by
    obtain ⟨_, z⟩ := startL_get e1
    subst z
    cases o1
section
variable {P : Program} {w : World} {K : PySem.W.Frag} {mg : Str → Option Value} {base : Heap} {k n : Nat} {f : Addr} {x qual y : Str} {params : Arguments} {body : List Stmt} {scope : Scope} {fd : FuncData} {N : List Str}
theorem fn_law {wb : WS} (Fd : FunD K x qual params body scope [] [] f fd) (S : FnScope N [y] scope)
    (hb : ∀ (cdv : Value) (A : Around) (outer : List Env) (s : Shared) (H : Hp) (E : XK), (A.deeper (envOfC qual scope s.heap.objs.size f cdv)).guards = some [] → Room k (A.deeper (envOfC qual scope s.heap.objs.size f cdv)) →
      PWSs (bX P w K mg base N qual scope f cdv A outer s H E) E body wb)
    (pure : ∀ ns : List Int, ns.length ≤ n → wb { nx := fun _ => False, rt := fun d _ _ => d = .bl true } (startL N ns)) : FnG P w K mg base (k + 1) f fd [y] (spLw K n) := by
  refine fnG_of Fd S (fun vs H Q E h => ?_) fun cdv A outer s H vs Q E hg hr h => ?_
  · obtain ⟨a, ns, e, _⟩ := h
    rw [e]
    rfl
  · obtain ⟨a, ns, e, sq, hn, hq⟩ := h
    subst e
    obtain ⟨t, pt, kt⟩ := hb cdv A outer s H E hg hr
    refine ⟨t, pt, kt ⟨K, H, H00, none⟩ H00 H (L2.start N [.ref a]) (startL N ns) { nx := fun _ => False, rt := fun d _ _ => d = .bl true } _ ⟨rfl, fun _ _ _ _ _ _ _ _ h => h.elim⟩ (Hd.startL sq) ?_ (pure ns hn)⟩
    exact ⟨fun _ _ _ _ _ _ z => z.elim, fun v F' H' σ' Γ' d fr h' x r' q => by
      subst q
      have e := rp_bl r'
      subst e
      exact hq H', fun _ _ _ _ _ _ z => z.elim, fun _ _ _ _ _ _ z => z.elim⟩
end
/-- the end of a law over a head by facts -/
theorem walk_y {l : PySem.W.OpenLaw} {n k : Nat} {q : Program} {loose : List Str} {XP : (Str → Option Value) → Heap → Prop} {YP : World → Heap → Prop} {d : DefRec} {x : Str}
    (hn : l.most = some n) (hn2 : n ≤ sizeLine) (hdf : d.params.defaults = []) (hr : Room k callerA)
    (F : ∀ (w : World) (mg : Str → Option Value) (fa : Addr) (h : Heap), YP w h → h.Ns mainGlobals mg → mg d.name = some (.ref fa) →
      ∃ (K : PySem.W.Frag) (fd : FuncData), K.In h ∧ (∀ (s : Shared) (u : Value), BindsTo s fd ⟨[u], []⟩ [(x, u)]) ∧
        ∀ base : Heap, K.In base → base.Ns mainGlobals mg → FnG l.prog w K mg base k fa fd [x] (spLw K n)) :
    PySem.W.WalkO q loose XP YP l.row.toRowW d [] (fun f vs => PySem.call f vs) := by
  refine Att.attach_call hn hdf fun w s₀ s₁ mg mb fa o pm cd doc a vs ns G Y ho hd hcd hmg hobj hints hlen hg => ?_
  obtain ⟨K, fd, KX, hb, hF⟩ := F w mg fa _ Y G.T.g hmg
  exact law_go KX G.T.g G.T.b G.T.builtins G.T.nolimit hg hobj hints (Nat.le_trans hlen hn2) hr hF hb fun H _ hS => ⟨a, ns, rfl, hS, hlen, fun _ => rfl⟩
end Y

/-! Y: part 16: a new frame from here on; a walk over new lists that the body changes. -/
namespace Y
open PySem PySem.Spec PyProof.Rows L2

/-! ### a new frame -/
@[reducible] def dimS (io : Bool) : Option Sl → Option Sl
  | some (.dat d _) => some (.old d)
  | some (.old d) => some (.old d)
  | some (.raw v) => some (.raw v)
  | some (.ino o) => if io then some (.ino o) else none
  | _ => none
@[reducible] def undS (io : Bool) : Option Sl → Option Sl
  | some (.dat d fr) => some (.dat d fr)
  | some (.old d) => some (.dat d false)
  | some (.own o fr) => some (.own o fr)
  | some (.raw v) => some (.raw v)
  | some (.ino o) => if io then some (.ino o) else none
  | _ => none
@[reducible] def mpS (f : Option Sl → Option Sl) : En → En
  | [] => []
  | s :: r => f s :: mpS f r
theorem mpS_length (f : Option Sl → Option Sl) : ∀ Γ : En, (mpS f Γ).length = Γ.length
  | [] => rfl
  | s :: r => congrArg (· + 1) (mpS_length f r)
@[reducible] def dim (io : Bool) (Γ : En) : En := mpS (dimS io) Γ
@[reducible] def und (io : Bool) (Γ : En) : En := mpS (undS io) Γ
theorem gt_map {f : Option Sl → Option Sl} (h0 : f none = none) : ∀ {Γ : En} {i : Nat}, gt (mpS f Γ) i = f (gt Γ i)
  | [], _ => h0.symm
  | _ :: _, 0 => rfl
  | _ :: r, i + 1 => gt_map h0 (Γ := r) (i := i)
theorem gt_dim {io : Bool} {Γ : En} {i : Nat} : gt (dim io Γ) i = dimS io (gt Γ i) := gt_map rfl
theorem gt_und {io : Bool} {Γ : En} {i : Nat} : gt (und io Γ) i = undS io (gt Γ i) := gt_map rfl
/-- the frame from here on -/
def Rl.from (R : Rl) (F H : Hp) (io : Option Addr) : Rl := ⟨R.K, H, F, io⟩
section
variable {R : Rl} {F F' H H' : Hp} {σ σ' : L2.St} {Γ Γ' : En}
theorem Hd.h0n (h : Hd R F H σ Γ) {p : Addr} (e : H p = none) : R.H0 p = none := by
  rcases h.h0 e with q | q
  · exact q
  · exact absurd e (h.iof p q).2.2
theorem fF_back (h : Hd R F H σ Γ) {io : Option Addr} : ∀ {fr : Bool}, Ex (fF (R.from F H io) F' fr) (fF R F' fr)
  | true => fun a o e => by
    have e' : nw H F' a = some o := e
    unfold nw at e'
    cases q : H a with
    | none =>
      rw [q] at e'
      show nw R.H0 F' a = some o
      rw [nw_at (h.h0n q)]
      exact e'
    | some u => rw [q] at e'; cases e'
  | false => Ex.refl _
/-- into the new frame: the changeable argument as it was -/
theorem Hd.rebase (h : Hd R F H σ Γ) : Hd (R.from F H R.io) F H σ (dim true Γ) where
  sub := h.sub
  base := fun a o e _ => e
  f0 := fun a u e => e
  new := fun a u e => .inl e
  iof := fun a e => ⟨(h.iof a e).1, (h.iof a e).2.2, (h.iof a e).2.2⟩
  len := by unfold dim; rw [mpS_length]; exact h.len
  sl := fun i s e => by
    rw [gt_dim] at e
    cases q : gt Γ i with
    | none => rw [q] at e; cases e
    | some t =>
      rw [q] at e
      obtain ⟨v, e1, ok⟩ := h.sl i t q
      refine ⟨v, e1, ?_⟩
      cases t with
      | dat d fr => cases e; exact Rp.mono fF_ex ok
      | old d => cases e; exact Rp.mono h.f0 ok
      | raw u => cases e; exact ok
      | ino o =>
        cases e
        obtain ⟨p, e1, e2, t⟩ := ok
        exact ⟨p, e1, e2, t⟩
      | own _ _ => cases e
      | scr _ => cases e
  sep := fun i j s t p e1 e2 o1 o2 p1 p2 => by
    have key : ∀ {i : Nat} {s : Sl}, gt (dim true Γ) i = some s → owny s = true → ∃ t, gt Γ i = some t ∧ owny t = true := fun {i s} e o => by
      rw [gt_dim] at e
      cases q : gt Γ i with
      | none => rw [q] at e; cases e
      | some t =>
        rw [q] at e
        cases t with
        | ino o => exact ⟨_, rfl, rfl⟩
        | dat d fr => cases e; cases o
        | old d => cases e; cases o
        | raw u => cases e; cases o
        | own _ _ => cases e
        | scr _ => cases e
    obtain ⟨t1, a1, b1⟩ := key e1 o1
    obtain ⟨t2, a2, b2⟩ := key e2 o2
    exact h.sep i j t1 t2 p a1 a2 b1 b2 p1 p2
/-- .. a new list the changeable one -/
theorem Hd.rebaseI (h : Hd R F H σ Γ) {i : Nat} {p : Addr} {us : List V} {os : List D} (hp : H p = some (.lst us)) (fp : F p = none) (ro : RpAll H00 us os) : Hd (R.from F H (some p)) F H (σ.set i (some (.ref p))) (st (dim false Γ) i (some (.ino (.lst os)))) where
  sub := h.sub
  base := fun a o e _ => e
  f0 := fun a u e => e
  new := fun a u e => .inl e
  iof := fun a e => by
    cases e
    exact ⟨fp, (by show H p ≠ none; rw [hp]; simp), (by rw [hp]; simp)⟩
  len := by rw [st_length, List.length_set]; unfold dim; rw [mpS_length]; exact h.len
  sl := fun j s e => by
    by_cases hj : j = i
    · subst hj
      have hl := gt_lt e
      rw [st_length] at hl
      rw [gt_st_same hl] at e
      cases e
      have hl' : j < σ.length := by rw [← h.len]; unfold dim at hl; rw [mpS_length] at hl; exact hl
      exact ⟨_, List.getElem?_set_self hl', p, rfl, rfl, us, hp, ro.mono fun _ _ z => by cases z⟩
    · rw [gt_st_ne hj, gt_dim] at e
      cases q : gt Γ j with
      | none => rw [q] at e; cases e
      | some t =>
        rw [q] at e
        obtain ⟨v, e1, ok⟩ := h.sl j t q
        refine ⟨v, by rw [List.getElem?_set_ne (Ne.symm hj)]; exact e1, ?_⟩
        cases t with
        | dat d fr => cases e; exact Rp.mono fF_ex ok
        | old d => cases e; exact Rp.mono h.f0 ok
        | raw u => cases e; exact ok
        | ino o => cases e
        | own _ _ => cases e
        | scr _ => cases e
  sep := fun a b s t q e1 e2 o1 o2 p1 p2 => by
    have key : ∀ {j : Nat} {s : Sl}, gt (st (dim false Γ) i (some (.ino (.lst os)))) j = some s → owny s = true → j = i := fun {j s} e o => by
      by_cases hj : j = i
      · exact hj
      · rw [gt_st_ne hj, gt_dim] at e
        cases q : gt Γ j with
        | none => rw [q] at e; cases e
        | some t =>
          rw [q] at e
          cases t with
          | dat d fr => cases e; cases o
          | old d => cases e; cases o
          | raw u => cases e; cases o
          | ino o => cases e
          | own _ _ => cases e
          | scr _ => cases e
    rw [key e1 o1, key e2 o2]
/-- back: what the new frame's changeable list is -/
def IoBack (R : Rl) (io : Option Addr) (keep : Bool) : Prop := match keep with
  | true => io = R.io
  | false => ∀ p, io = some p → R.H0 p = none
theorem IoBack.base {io : Option Addr} {keep : Bool} (b : IoBack R io keep) {a : Addr} {o : HO} (e : R.H0 a = some o) (n : R.io ≠ some a) : io ≠ some a := fun z => by
  cases keep with
  | true =>
    have b' : io = R.io := b
    exact n (by rw [← b']; exact z)
  | false =>
    have b' := b a z
    rw [e] at b'
    cases b'
theorem Hd.unbase (h : Hd R F H σ Γ) {io : Option Addr} {keep : Bool} (h' : Hd (R.from F H io) F' H' σ' Γ') (hb : IoBack R io keep) : Hd R F' H' σ' (und keep Γ') where
  sub := h'.sub
  base := fun a o e n => h'.base a o (h.base a o e n) (hb.base e n)
  f0 := fun a u e => h'.f0 a u (h.f0 a u e)
  new := fun a u e => by
    rcases h'.new a u e with q | q
    · exact h.new a u q
    · exact .inr (h.h0n q)
  iof := fun a e => by
    obtain ⟨h1, h2, h3⟩ := h.iof a e
    refine ⟨?_, h2, fun z => ?_⟩
    · cases q : F' a with
      | none => rfl
      | some u =>
        rcases h'.new a u q with z | z
        · have z' : F a = some u := z
          rw [h1] at z'; cases z'
        · exact absurd z h3
    · by_cases hio : io = some a
      · exact (h'.iof a hio).2.2 z
      · cases q : H a with
        | none => exact h3 q
        | some o =>
          have := h'.base a o q hio
          rw [z] at this; cases this
  len := by unfold und; rw [mpS_length]; exact h'.len
  sl := fun i s e => by
    rw [gt_und] at e
    cases q : gt Γ' i with
    | none => rw [q] at e; cases e
    | some t =>
      rw [q] at e
      obtain ⟨v, e1, ok⟩ := h'.sl i t q
      refine ⟨v, e1, ?_⟩
      cases t with
      | dat d fr => cases e; exact Rp.mono (fF_back h) ok
      | old d => cases e; exact Rp.mono h'.f0 ok
      | raw u => cases e; exact ok
      | own o fr =>
        cases e
        obtain ⟨p, e1, e2, e3, t⟩ := ok
        exact ⟨p, e1, e2, h.h0n e3, t.mono (fF_back h) fun _ k => k⟩
      | ino o =>
        cases keep with
        | true =>
          cases e
          obtain ⟨p, e1, e2, t⟩ := ok
          have e2' : io = some p := e2
          have hb' : io = R.io := hb
          exact ⟨p, e1, by rw [← hb']; exact e2', t⟩
        | false => cases e
      | scr _ => cases e
  sep := fun i j s t p e1 e2 o1 o2 p1 p2 => by
    have key : ∀ {i : Nat} {s : Sl}, gt (und keep Γ') i = some s → owny s = true → ∃ t, gt Γ' i = some t ∧ owny t = true := fun {i s} e o => by
      rw [gt_und] at e
      cases q : gt Γ' i with
      | none => rw [q] at e; cases e
      | some t =>
        rw [q] at e
        cases t with
        | ino o => exact ⟨_, rfl, rfl⟩
        | own o fr => exact ⟨_, rfl, rfl⟩
        | dat d fr => cases e; cases o
        | old d => cases e; cases o
        | raw u => cases e; cases o
        | scr _ => cases e
    obtain ⟨t1, a1, b1⟩ := key e1 o1
    obtain ⟨t2, a2, b2⟩ := key e2 o2
    exact h'.sep i j t1 t2 p a1 a2 b1 b2 p1 p2
theorem Go.rebase {X : Cx} {E : XK} {ex : EX} (g : Go X R E ex) (h : Hd R F H σ Γ) {io : Option Addr} {keep : Bool} (hb : IoBack R io keep) : Go X (R.from F H io) E ex :=
  ⟨g.K, fun c C dd v d F' H' hm hex b xF sub rv hd => g.lk c C dd v d F' H' hm hex (fun a o e n => b a o (h.base a o e n) (hb.base e n)) (fun a o e => xF a o (h.f0 a o e)) sub rv hd⟩
end

/-! ### a call that gives a new list of flat things -/
section
variable {X : Cx} {E : XK} {e a b c tg : Expr} {es : List Expr} {pos p : Pos} {x : Str} {wa wb wc : WE} {va vb : WV}
@[reducible] def wCallN (fs : FS) (wr : WA) : WE := fun ex Γ Q => wr ex Γ fun ds Γ1 => fs (ds.map (·.1)) (fun d fr => ∃ os, d = .lst os ∧ fr = true ∧ os.all flt = true ∧ Q (.lst os) true Γ1) ex
theorem not_ow {R : Rl} {F H : Hp} {σ : L2.St} {Γ : En} (h : Hd R F H σ Γ) {p : Addr} (hp : H p = none) : ¬ Ow σ Γ p := (h.newO (o := .lst []) hp).2.2.2
theorem pn_call {k : Nat} {f : Addr} {fd : FuncData} {ps : List Str} {fs : FS} {wr : WA} (Fn : FnG X.prog X.w X.K X.mg X.base k f fd ps (spF X.mg fs)) (hgd : X.A.guards = some []) (hr : Room k X.A) (hm : X.mg x = some (.ref f)) (hk : PySem.W.keepIn X.K (.ref f) = true) (hb : Binds X.K fd ps [])
    (hx : Passes (L2.CX X.prog X.w) X E) (ha : PWA X E (e :: es) wr) (hg : Gl X x := by rfl) (hdb : (x == ("__debug__" : Str)) = false := by decide) (he : starEach (e :: es) X.env = (false, eval e X.env) :: starEach es X.env := by rfl) (hpl : (backTo pos (starEach es X.env)).any (·.1) = false := by rfl) :
    PWN X E (.Call (.Name x p) (e :: es) [] pos) (wCallN fs wr) := by
  obtain ⟨t, pt, kt⟩ := ha
  refine ⟨_, pe_fnG Fn hgd hr hm hk hb hx pt hg hdb he hpl, fun R F H σ Γ ex Q Qt g h eq w => ?_⟩
  refine kt R F H σ Γ ex _ _ g h (fun vs F1 H1 Γ1 ds h1 x1 r1 w1 => ?_) w
  show spF X.mg fs (vs ++ []) H1 Qt E
  rw [List.append_nil]
  refine ⟨F1, ds.map (·.1), _, ex, h1.sub, r1.plain, w1, fun v F2 H2 d fr xH xF sub new r q => ?_, fun c C dd v d F2 H2 hm hex xH xF sub r hd => g.lk c C dd v d F2 H2 hm hex (fun a o e n => xH a o (h1.base a o e n)) (fun a o e => xF a o (h1.f0 a o e)) sub r hd⟩
  obtain ⟨os, e1, e2, fl, q⟩ := q
  subst e1
  subst e2
  cases r with
  | lst z ra =>
    rename_i q1 us
    have hn : H1 q1 = none := by
      cases y : H1 q1 with
      | none => rfl
      | some u =>
        have z' : nw H1 F2 q1 = some (.lst us) := z
        unfold nw at z'
        rw [y] at z'
        cases z'
    have h2 : Hd R F1 H2 σ Γ1 := h1.grow xH (Ex.refl _) (fun a u e => (h1.sub a u e).ex xH) fun a u e => .inl e
    exact eq q1 F1 H2 Γ1 (.lst os) true h2 (x1.trans (.grow (Ex.refl _) xH fun a u e => .inl e)) (x1.was hn) ⟨q1, rfl, h1.fNone hn, h1.h0n hn, us, RdD.lst (sub _ _ (nw_ex _ _ z)), flt_all fl ra⟩ (not_ow h1 hn) q
end

/-! ### for x in [new list for ..] -/
@[reducible] def lnGo (tg : WG) (te : WE) (vs : List Nat) : List (D × Bool) → List (List D) → En → (List (List D) → En → Prop) → Prop
  | [], acc, Γ, K => K acc Γ
  | x :: xs, acc, Γ, K => tg x.1 x.2 (wp Γ vs) fun Γ1 => te ex0 Γ1 fun d _ Γ2 => match d with
    | .lst os => os.all flt = true ∧ lnGo tg te vs xs (acc ++ [os]) (rs Γ Γ2 vs) K
    | _ => False
@[reducible] def fnGo (i : Nat) (body : WS) (P : DE) : List (List D) → En → Prop
  | [], Γ => P.nx Γ
  | os :: r, Γ => body { nx := fun Γ2 => fnGo i body P r (und false Γ2), ct := fun Γ2 => fnGo i body P r (und false Γ2), bk := fun Γ2 => P.nx (und false Γ2), rt := fun d fr Γ2 => P.rt d fr (und false Γ2), xe := P.xe } (st (dim false Γ) i (some (.ino (.lst os))))
@[reducible] def wForNew (i : Nat) (wi : WI) (tg : WG) (te : WE) (vs : List Nat) (body : WS) : WS := fun P Γ => wi P.xe Γ fun items dp Γ1 => dp = [] ∧ items.length ≤ sizeLine ∧ lnGo tg te vs items [] Γ1 fun oss Γ2 => fnGo i body P oss Γ2
/-- the new lists that the walk will change, as they stand -/
structure NewL (R : Rl) (F H : Hp) (σ : L2.St) (Γ : En) (p : Addr) (os : List D) : Prop where
  at_ : ∃ us, H p = some (.lst us) ∧ RpAll H00 us os
  f : F p = none
  h0 : R.H0 p = none
  ow : ¬ Ow σ Γ p
theorem NewL.nx {R : Rl} {F H F' H' : Hp} {σ : L2.St} {Γ Γ' : En} {p : Addr} {os : List D} (n : NewL R F H σ Γ p os) (x : Nx σ F H Γ F' H' Γ') : NewL R F' H' σ Γ' p os := by
  obtain ⟨us, e, r⟩ := n.at_
  refine ⟨⟨us, x.keep p _ e n.ow, r⟩, ?_, n.h0, fun z => n.ow (x.ow p z)⟩
  cases q : F' p with
  | none => rfl
  | some u =>
    rcases x.new p u q with z | z | z
    · rw [n.f] at z; cases z
    · rw [e] at z; cases z
    · exact absurd z n.ow
inductive NewLs (R : Rl) (F H : Hp) (σ : L2.St) (Γ : En) : List Addr → List (List D) → Prop
  | nil : NewLs R F H σ Γ [] []
  | cons {p : Addr} {os : List D} {ps : List Addr} {oss : List (List D)} : NewL R F H σ Γ p os → NewLs R F H σ Γ ps oss → NewLs R F H σ Γ (p :: ps) (os :: oss)
theorem NewLs.nx {R : Rl} {F H F' H' : Hp} {σ : L2.St} {Γ Γ' : En} (x : Nx σ F H Γ F' H' Γ') : ∀ {ps : List Addr} {oss : List (List D)}, NewLs R F H σ Γ ps oss → NewLs R F' H' σ Γ' ps oss
  | _, _, .nil => .nil
  | _, _, .cons a r => .cons (a.nx x) (r.nx x)
theorem NewLs.snoc {R : Rl} {F H : Hp} {σ : L2.St} {Γ : En} {p : Addr} {os : List D} (a : NewL R F H σ Γ p os) : ∀ {ps : List Addr} {oss : List (List D)}, NewLs R F H σ Γ ps oss → NewLs R F H σ Γ (ps ++ [p]) (oss ++ [os])
  | _, _, .nil => .cons a .nil
  | _, _, .cons b r => .cons b (r.snoc a)
theorem NewLs.there {R : Rl} {F H : Hp} {σ : L2.St} {Γ : En} : ∀ {ps : List Addr} {oss : List (List D)}, NewLs R F H σ Γ ps oss → ∀ p ∈ ps, H p ≠ none
  | _, _, .cons a r, p, hp => by
    rcases List.mem_cons.mp hp with e | hp
    · rw [e]
      obtain ⟨us, z, _⟩ := a.at_
      rw [z]; simp
    · exact r.there p hp
theorem NewLs.len {R : Rl} {F H : Hp} {σ : L2.St} {Γ : En} : ∀ {ps : List Addr} {oss : List (List D)}, NewLs R F H σ Γ ps oss → ps.length = oss.length
  | _, _, .nil => rfl
  | _, _, .cons _ r => congrArg (· + 1) r.len
/-- behind a turn of the body, in the outer frame: the lists that are still to come -/
theorem NewLs.unbase {R : Rl} {F H F' H' : Hp} {σ σ' : L2.St} {Γ Γ' : En} {p : Addr} (h' : Hd (R.from F H (some p)) F' H' σ' Γ') {ps : List Addr} {oss : List (List D)} (hp : p ∉ ps) (n : NewLs R F H σ Γ ps oss) : NewLs R F' H' σ' (und false Γ') ps oss := by
  induction n with
  | nil => exact .nil
  | @cons q os ps oss a r ih =>
    obtain ⟨us, e, ru⟩ := a.at_
    have ne : (R.from F H (some p)).io ≠ some q := fun z => hp (by cases z; exact List.mem_cons_self)
    have e' := h'.base q _ e ne
    refine .cons ⟨⟨us, e', ru⟩, ?_, a.h0, ?_⟩ (ih fun z => hp (List.mem_cons_of_mem _ z))
    · cases y : F' q with
      | none => rfl
      | some u =>
        rcases h'.new q u y with z | z
        · have z' : F q = some u := z
          rw [a.f] at z'; cases z'
        · have z' : H q = none := z
          rw [e] at z'; cases z'
    · rintro ⟨j, t, e1, e2, e3⟩
      rw [gt_und] at e1
      cases y : gt Γ' j with
      | none => rw [y] at e1; cases e1
      | some s =>
        rw [y] at e1
        obtain ⟨v, z1, ok⟩ := h'.sl j s y
        rw [e3] at z1
        cases z1
        cases s with
        | own o fr =>
          obtain ⟨q2, z2, _, z4, _⟩ := ok
          cases z2
          have z4' : H q = none := z4
          rw [e] at z4'
          cases z4'
        | dat d fr => cases e1; cases e2
        | old d => cases e1; cases e2
        | raw u => cases e1; cases e2
        | ino o => cases e1
        | scr _ => cases e1
theorem NewLs.upd {R : Rl} {F H : Hp} {σ : L2.St} {Γ : En} {q : Addr} {u : HO} {ps : List Addr} {oss : List (List D)} (hq : q ∉ ps) (n : NewLs R F H σ Γ ps oss) : NewLs R F (upd H q u) σ Γ ps oss := by
  induction n with
  | nil => exact .nil
  | @cons p os ps oss a r ih =>
    obtain ⟨us, e, ru⟩ := a.at_
    refine .cons ⟨⟨us, ?_, ru⟩, a.f, a.h0, a.ow⟩ (ih fun z => hq (List.mem_cons_of_mem _ z))
    rw [upd_ne (fun z => hq (by rw [← z]; exact List.mem_cons_self))]
    exact e
theorem NewLs.frz {R : Rl} {F H : Hp} {σ : L2.St} {Γ : En} {q : Addr} {u : HO} {ps : List Addr} {oss : List (List D)} (hq : q ∉ ps) (n : NewLs R F H σ Γ ps oss) : NewLs R (L2.upd F q u) H σ Γ ps oss := by
  induction n with
  | nil => exact .nil
  | @cons p os ps oss a r ih =>
    refine .cons ⟨a.at_, ?_, a.h0, a.ow⟩ (ih fun z => hq (List.mem_cons_of_mem _ z))
    rw [upd_ne (fun z => hq (by rw [← z]; exact List.mem_cons_self))]
    exact a.f
theorem NewLs.drop {R : Rl} {F H : Hp} {σ : L2.St} {Γ : En} : ∀ {ps : List Addr} {oss : List (List D)} (i : Nat), NewLs R F H σ Γ ps oss → NewLs R F H σ Γ (ps.drop i) (oss.drop i)
  | _, _, 0, h => h
  | _, _, _ + 1, .nil => .nil
  | _, _, i + 1, .cons _ r => r.drop i
section
variable {X : Cx} {E : XK}
theorem blk_n {scope : Scope} {e : Expr} {w : WE} (h : Blk X scope fun Y => PWN Y E0 e w) : ∃ te : TE, (Blk X scope fun Y => PE Y e te) ∧ SN X E0 te w := by
  refine ⟨fun σ H Q => ∀ (s : Shared) (H0 : Hp) (C : Addr) (cl : List (Str × Addr)) (fp : List Addr), (h s H0 C cl fp).choose σ H Q, fun s H0 C cl fp => ⟨fun pins st σ H Q I q => (h s H0 C cl fp).choose_spec.1.run pins st σ H Q I (q s H0 C cl fp)⟩, ?_⟩
  intro R F H σ Γ ex Q Qt g hd eq hw s H0 C cl fp
  exact (h s H0 C cl fp).choose_spec.2 R F H σ Γ ex Q Qt (go_blk g) hd eq hw
theorem lcn_run {wi : TI} {g : TG} {tt : TT} {te : TE} {w : WI} {wg : WG} {we : WE} {vs sl : List Nat} (ki : SI X E wi w) (kg : SG X sl g wg) (kt : ST X E0 tt wYes) (ke : SN X E0 te we) (hsl : ∀ j ∈ sl, j ∈ vs)
    {R : Rl} {F H : Hp} {σ : L2.St} {Γ : En} {ex : EX} {K : List (List D) → En → Prop} {Qt : VK} (gg : Go X R E ex) (h : Hd R F H σ Γ)
    (eq : ∀ q F' H' Γ' ps oss, Hd R F' H' σ Γ' → Nx σ F H Γ F' H' Γ' → F' q = none → R.H0 q = none → ¬ Ow σ Γ' q → H' q = some (.lst (ps.map V.ref)) → NewLs R F' H' σ Γ' ps oss → ps.Nodup → q ∉ ps → K oss Γ' → Qt (.ref q) H')
    (q : w ex Γ fun items dp Γ1 => dp = [] ∧ items.length ≤ sizeLine ∧ lnGo wg we vs items [] Γ1 K) : tLc wi g tt te vs σ H Qt := by
  refine ki R F H σ Γ ex _ _ gg h (fun J F1 H1 Γ1 items dp h1 x1 it q => ?_) q
  obtain ⟨ed, hsz, q⟩ := q
  subst ed
  intro D0 hD
  obtain ⟨hn, fn, zn, on⟩ := h1.newO (o := .lst []) hD
  refine ⟨fun i m Hc => m = items.length - i ∧ i ≤ items.length ∧ ∃ Fc Γc ps oss, Hd R Fc Hc σ Γc ∧ Nx σ F1 H1 Γ1 Fc Hc Γc ∧ Hc D0 = some (.lst (ps.map V.ref)) ∧ NewLs R Fc Hc σ Γc ps oss ∧ ps.Nodup ∧ D0 ∉ ps ∧ ps.length ≤ i ∧ Fc D0 = none ∧ ¬ Ow σ Γc D0 ∧
      lnGo wg we vs (items.drop i) oss Γc K, ⟨items.length, rfl, Nat.zero_le _, F1, Γ1, [], [], hn, Nx.refl.poke hD, upd_same, .nil, List.nodup_nil, (by simp), Nat.le_refl _, fn, on, q⟩, ?_⟩
  rintro i m Hc ⟨em, hi, Fc, Γc, ps, oss, hc, nc, eD, nl, nd, nq, hlen, fD, oD, q2⟩
  by_cases hlt : i < items.length
  · rw [drop_cons hlt] at q2
    obtain ⟨it1, _⟩ := it i Fc Hc σ Γc nc.ex hc (fun z hz => absurd hz (by simp))
    obtain ⟨go, yld⟩ := it1 items[i].1 items[i].2 (List.getElem?_eq_getElem hlt)
    refine .inr ⟨go, fun H' => ∃ Fc Γc ps oss, Hd R Fc H' σ Γc ∧ Nx σ F1 H1 Γ1 Fc H' Γc ∧ H' D0 = some (.lst (ps.map V.ref)) ∧ NewLs R Fc H' σ Γc ps oss ∧ ps.Nodup ∧ D0 ∉ ps ∧ ps.length ≤ i + 1 ∧ Fc D0 = none ∧ ¬ Ow σ Γc D0 ∧
      lnGo wg we vs (items.drop (i + 1)) oss Γc K, fun H' z => ⟨items.length - (i + 1), by omega, rfl, hlt, z⟩, fun x H2 hy => ?_⟩
    obtain ⟨F2, xF, xH, sub, new, rx⟩ := yld x H2 hy
    have h3 := hc.grow xH xF sub new
    have n3 : Nx σ Fc Hc Γc F2 H2 Γc := .grow xF xH new
    refine kg R F2 H2 _ _ x _ _ _ _ gg.K (h3.wiped vs) rx (fun σ4 Γ4 h4 s4 q4 => ?_) q2
    have out4 : ∀ j, j ∉ vs → σ4[j]? = σ[j]? := fun j hj => (s4.out j fun z => hj (hsl j z)).trans (wipe_out hj)
    have ow4 : ∀ a, Ow σ4 Γ4 a → Ow σ Γc a := fun a z => ow_wiped (s4.ow a z)
    have len4 : σ4.length = σ.length := s4.len.trans (wipe_length _ _)
    refine ⟨wipe_same len4 out4, ?_⟩
    refine kt R F2 H2 σ4 Γ4 ex0 (fun b Γ5 => b = true ∧ we ex0 Γ5 fun d fr Γ6 => match d with
      | .lst os => os.all flt = true ∧ lnGo wg we vs (items.drop (i + 1)) (oss ++ [os]) (rs Γc Γ6 vs) K
      | _ => False) _ (go_none gg.K) h4 (fun b F5 H5 Γ5 h5 x5 q5 => ?_) ⟨rfl, q4⟩
    obtain ⟨eb, q5⟩ := q5
    subst eb
    show (if true = true then _ else _)
    rw [if_pos rfl]
    refine ke R F5 H5 σ4 Γ5 _ _ _ (go_none gg.K) h5 (fun p F6 H6 Γ6 o fr h6 x6 hp ok np q6 => ?_) q5
    have x56 := x5.trans x6
    have o4 : ¬ Ow σ4 Γ4 D0 := fun z => oD (ow4 D0 z)
    have nb := n3.block ow4 x56 out4
    have e2 := xH _ _ eD
    have e6 : H6 D0 = some (.lst (ps.map V.ref)) := x56.keep D0 _ e2 o4
    have f6 : F6 D0 = none := by
      cases z : F6 D0 with
      | none => rfl
      | some u =>
        rcases nb.new D0 u z with y | y | y
        · rw [fD] at y; cases y
        · rw [eD] at y; cases y
        · exact absurd y oD
    have h7 := h3.unwiped h6 x56.ex len4 out4
    have o7 : ¬ Ow σ (rs Γc Γ6 vs) D0 := fun z => oD (nb.ow D0 z)
    have pD : p ≠ D0 := fun z => by
      rw [z] at hp
      exact x5.stay D0 (by rw [e2]; simp) hp
    obtain ⟨p', ep, fp, zp, t⟩ := ok
    cases ep
    cases o with
    | lst os =>
      obtain ⟨fl, q6⟩ := q6
      obtain ⟨us, eu, ru⟩ := t
      have nlp : NewL R F6 H6 σ (rs Γc Γ6 vs) p os := ⟨⟨us, eu, flt_all fl ru⟩, fp, zp, fun z => np (ow_rs out4 z)⟩
      have pps : p ∉ ps := fun z => x5.stay p (n3.stay p (nl.there p z)) hp
      have nq' : D0 ∉ ps ++ [p] := fun z => by
        rcases List.mem_append.mp z with z | z
        · exact nq z
        · exact pD (List.mem_singleton.mp z).symm
      refine ⟨ps.map V.ref, e6, by rw [List.length_map]; omega, F6, rs Γc Γ6 vs, ps ++ [p], oss ++ [os], h7.poke f6 o7 zn, (nc.trans nb).poke hD, ?_, ((nl.nx nb).snoc nlp).upd nq', ?_, nq', ?_, f6, o7, q6⟩
      · rw [upd_same, List.map_append]
        rfl
      · exact List.nodup_append.mpr ⟨nd, List.pairwise_singleton _ _, fun a ha b hb e => pps (by rw [List.mem_singleton.mp hb] at e; rw [← e]; exact ha)⟩
      · rw [List.length_append, List.length_singleton]; omega
    | _ => exact q6.elim
  · have e : i = items.length := by omega
    subst e
    rw [List.drop_length] at q2
    obtain ⟨_, it2⟩ := it items.length Fc Hc σ Γc nc.ex hc (fun z hz => absurd hz (by simp))
    exact .inl ⟨it2 (Nat.le_refl _), eq D0 Fc Hc Γc ps oss hc (x1.trans nc) fD zn oD eD nl nd nq q2⟩
variable {elt tg iter : Expr} {scope : Scope} {own : List (Str × Nat)} {pos lpos xpos : Pos} {x : Str} {sl : List Nat} {w : WI} {wg : WG} {we : WE} {body : List Stmt} {wb : WS}
theorem pws_forNew (i : Nat) (hp : PassesOwn (model X.prog X.w) X.A X.env X.xe) (hc : X.calm = true) (hN : X.N.Nodup) (ok : BlkOk X.N X.env.scope scope own) (hi : PWI X E tg iter w) (hg : Blk X scope fun Y => PWG Y sl tg wg) (he : Blk X scope fun Y => PWN Y E0 elt we) (hsl : ∀ j ∈ sl, j ∈ own.map (·.2)) (hb : PWSs X E body wb)
    (hx : Loc X.env.scope x := by first | exact Or.inl rfl | exact Or.inr rfl) (hxi : X.N[i]? = some x := by rfl) (hf : X.fn x = true ∨ X.env.scope.names.lookup x = some .local := by first | exact .inl rfl | exact .inr rfl | assumption)
    (hs : ∀ x, foldedSetIterable iter X.env x = pure x := by intro _; rfl) (hs2 : ∀ x, foldedSetIterable (.ListComp elt [⟨tg, iter, [], 0⟩] scope lpos) X.env x = pure x := by intro _; rfl) :
    PWS X E (.For (.Name x xpos) (.ListComp elt [⟨tg, iter, [], 0⟩] scope lpos) body [] pos) (wForNew i w wg we (own.map (·.2)) wb) := by
  obtain ⟨wi, pi, ki⟩ := hi
  obtain ⟨g, pg, kg⟩ := blk_g hg
  obtain ⟨tt, ptt, kt⟩ := blk_t (X := X) (scope := scope) (ifs := []) (w := wYes) fun s H C cl fp => pwts_nil
  obtain ⟨te, pte, ke⟩ := blk_n he
  obtain ⟨tb, pb, kb⟩ := hb
  refine ⟨_, ps_for hp hc (pi_list (pe_lc hc hN pi ok pg ptt pte hs)) (pg_name hN hxi hx hf) pb hs2, fun R F H σ Γ P T gg h s q => ?_⟩
  unfold tFor iList
  refine lcn_run ki kg kt ke hsl gg h (fun q F1 H1 Γ1 ps oss h1 x1 fq zq oq eq nl nd nq q1 => ?_) q
  obtain ⟨h2, at_⟩ := h1.frz fq oq zq eq
  have n2 : NewLs R (L2.upd F1 q (.lst (ps.map V.ref))) H1 σ Γ1 ps oss := nl.frz nq
  have x2 : Ex F (L2.upd F1 q (.lst (ps.map V.ref))) := x1.ex.trans (Ex.new fq)
  generalize hF2 : L2.upd F1 q (.lst (ps.map V.ref)) = F2 at h2 at_ n2 x2
  have fq2 : F2 q = some (.lst (ps.map V.ref)) := at_ false
  have ll : ps.length = oss.length := nl.len
  refine ⟨q, rfl, ⟨_, sql_of eq⟩, ?_⟩
  refine ⟨fun j m σ H => m = ps.length - j ∧ j ≤ ps.length ∧ ∃ Fc Γc, Ex F2 Fc ∧ Hd R Fc H σ Γc ∧ NewLs R Fc H σ Γc (ps.drop j) (oss.drop j) ∧ fnGo i wb P (oss.drop j) Γc, ⟨ps.length, rfl, Nat.zero_le _, F2, Γ1, Ex.refl _, h2, n2, q1⟩, ?_⟩
  rintro j m σ3 H3 ⟨em, hj, Fc, Γc, xc, hcc, nc, qc⟩
  have e3 : H3 q = some (.lst (ps.map V.ref)) := RdD.lst (hcc.sub _ _ (xc _ _ fq2))
  by_cases hlt : j < ps.length
  · have hlt2 : j < oss.length := by omega
    rw [List.drop_eq_getElem_cons hlt, List.drop_eq_getElem_cons hlt2] at nc
    rw [List.drop_eq_getElem_cons hlt2] at qc
    have ej : (ps.map V.ref)[j]? = some (.ref ps[j]) := by rw [List.getElem?_map, List.getElem?_eq_getElem hlt]; rfl
    refine .inr ⟨⟨_, _, sql_of e3, ej⟩, fun σ' H' => ∃ Fc Γc, Ex F2 Fc ∧ Hd R Fc H' σ' Γc ∧ NewLs R Fc H' σ' Γc (ps.drop (j + 1)) (oss.drop (j + 1)) ∧ fnGo i wb P (oss.drop (j + 1)) Γc, fun σ' H' z => ⟨ps.length - (j + 1), by omega, rfl, hlt, z⟩, fun y H4 hy => ?_⟩
    obtain ⟨eH, hy⟩ := hy
    subst eH
    have ey := hy _ (sql_of e3)
    rw [ej] at ey
    cases ey
    cases nc with
    | cons a r =>
      obtain ⟨us, eu, ru⟩ := a.at_
      have hbk : IoBack R (some ps[j]) false := fun p z => by
        cases z
        exact a.h0
      have pr : ps[j] ∉ ps.drop (j + 1) := by
        have z := nd.sublist (List.drop_sublist j ps)
        rw [List.drop_eq_getElem_cons hlt] at z
        exact (List.nodup_cons.mp z).1
      refine kb (R.from Fc H4 (some ps[j])) Fc H4 (σ3.set i (some (.ref ps[j]))) _ { nx := fun Γ2 => fnGo i wb P (oss.drop (j + 1)) (und false Γ2), ct := fun Γ2 => fnGo i wb P (oss.drop (j + 1)) (und false Γ2), bk := fun Γ2 => P.nx (und false Γ2), rt := fun d fr Γ2 => P.rt d fr (und false Γ2), xe := P.xe } _ (gg.rebase hcc hbk) (hcc.rebaseI eu a.f ru) ?_ qc
      have xx : Ex F Fc := x2.trans xc
      exact ⟨fun F' H' σ' Γ' hh x z => ⟨F', und false Γ', xc.trans x, hcc.unbase hh hbk, r.unbase hh pr, z⟩, fun v F' H' σ' Γ' d fr hh x rv z => s.rt v F' H' σ' (und false Γ') d fr (hcc.unbase hh hbk) (xx.trans x) (Rp.mono (fF_back hcc) rv) z,
        fun F' H' σ' Γ' hh x z => s.nx F' H' σ' (und false Γ') (hcc.unbase hh hbk) (xx.trans x) z, fun F' H' σ' Γ' hh x z => ⟨F', und false Γ', xc.trans x, hcc.unbase hh hbk, r.unbase hh pr, z⟩⟩
  · have e : j = ps.length := by omega
    subst e
    rw [ll, List.drop_length] at qc
    exact .inl ⟨⟨_, sql_of e3, by rw [List.length_map]; exact Nat.le_refl _⟩, s.nx Fc H3 σ3 Γc hcc (x2.trans xc) qc⟩
end
end Y

/-! Y: part 17: what the printed derivations lean on. -/
namespace Y
open PySem PySem.Spec PyProof.Rows L2

theorem u65 {k : Nat} {A : Around} (r : Room k A) : A.units + 65 < cLine := by have := r.un; omega
theorem u64 {k : Nat} {A : Around} (r : Room k A) : A.units + 64 < cLine := by have := r.un; omega
theorem u1 {k : Nat} {A : Around} (r : Room k A) : A.units + 1 < cLine := by have := r.un; omega
/-- the built-in names are free -/
structure FreeB (mg : Str → Option Value) : Prop where
  len : mg "len" = none
  min : mg "min" = none
  max : mg "max" = none
  sum : mg "sum" = none
  all : mg "all" = none
  any : mg "any" = none
  int : mg "int" = none
  bool : mg "bool" = none
  list : mg "list" = none
  tuple : mg "tuple" = none
  range : mg "range" = none
  enumerate : mg "enumerate" = none
  zip : mg "zip" = none
  sorted : mg "sorted" = none
  set : mg "set" = none
  repr : mg "repr" = none
  isinstance : mg "isinstance" = none
  divmod : mg "divmod" = none
/-- a def that may be called -/
structure CalD (P : Program) (w : World) (K : PySem.W.Frag) (mg : Str → Option Value) (base : Heap) (k : Nat) (x : Str) (ps : List Str) (sp : Sp) : Prop where
  ex : ∃ (f : Addr) (fd : FuncData), FnG P w K mg base k f fd ps sp ∧ mg x = some (.ref f) ∧ PySem.W.keepIn K (.ref f) = true ∧ Binds K fd ps []
/-- .. by keywords -/
structure CalK (P : Program) (w : World) (K : PySem.W.Frag) (mg : Str → Option Value) (base : Heap) (k : Nat) (x : Str) (ps : List Str) (sp : Sp) (ks : List Str) (ix : List Nat) : Prop where
  ex : ∃ (f : Addr) (fd : FuncData), FnG P w K mg base k f fd ps sp ∧ mg x = some (.ref f) ∧ PySem.W.keepIn K (.ref f) = true ∧ KBnd K fd ps ks ix
section
variable {X : Cx} {E : XK} {e a b c : Expr} {es : List Expr} {pos p : Pos} {x : Str} {wa wb wc : WE} {va vb : WV} {k j : Nat} {ps : List Str} {wr : WA}
theorem pw_cd {fs : FS} (C : CalD X.prog X.w X.K X.mg X.base j x ps (spF X.mg fs)) (hgd : X.A.guards = some []) (hr : Room k X.A) (hx : Passes (L2.CX X.prog X.w) X E) (ha : PWA X E (e :: es) wr) (hj : j ≤ k := by decide)
    (hg : Gl X x := by rfl) (hdb : (x == ("__debug__" : Str)) = false := by decide) (he : starEach (e :: es) X.env = (false, eval e X.env) :: starEach es X.env := by rfl) (hpl : (backTo pos (starEach es X.env)).any (·.1) = false := by rfl) :
    PWE X E (.Call (.Name x p) (e :: es) [] pos) (wCall fs wr) := by
  obtain ⟨f, fd, h1, h2, h3, h4⟩ := C.ex
  exact pw_call h1 hgd (hr.mono hj) h2 h3 h4 hx ha hg hdb he hpl
theorem pn_cd {fs : FS} (C : CalD X.prog X.w X.K X.mg X.base j x ps (spF X.mg fs)) (hgd : X.A.guards = some []) (hr : Room k X.A) (hx : Passes (L2.CX X.prog X.w) X E) (ha : PWA X E (e :: es) wr) (hj : j ≤ k := by decide)
    (hg : Gl X x := by rfl) (hdb : (x == ("__debug__" : Str)) = false := by decide) (he : starEach (e :: es) X.env = (false, eval e X.env) :: starEach es X.env := by rfl) (hpl : (backTo pos (starEach es X.env)).any (·.1) = false := by rfl) :
    PWN X E (.Call (.Name x p) (e :: es) [] pos) (wCallN fs wr) := by
  obtain ⟨f, fd, h1, h2, h3, h4⟩ := C.ex
  exact pn_call h1 hgd (hr.mono hj) h2 h3 h4 hx ha hg hdb he hpl
theorem pw_cm {fs : FSM} {y : Str} {py : Pos} (i : Nat) (C : CalD X.prog X.w X.K X.mg X.base j x ps (spM fs)) (hgd : X.A.guards = some []) (hr : Room k X.A) (hx : Passes (L2.CX X.prog X.w) X E) (ha : PWA X E es wr) (hj : j ≤ k := by decide)
    (hN : X.N[i]? = some y := by rfl) (hv : Vis X.env.scope y := by first | exact Or.inl rfl | exact Or.inr (Or.inl rfl) | exact Or.inr (Or.inr rfl)) (hd : (y == ("__debug__" : Str)) = false := by decide) (hcd : (y == ("__classdict__" : Str)) = false := by decide)
    (hg : Gl X x := by rfl) (hdb : (x == ("__debug__" : Str)) = false := by decide) (he : starEach (.Name y py :: es) X.env = (false, eval (.Name y py) X.env) :: starEach es X.env := by rfl) (hpl : (backTo pos (starEach es X.env)).any (·.1) = false := by rfl) :
    PWE X E (.Call (.Name x p) (.Name y py :: es) [] pos) (wCallM i fs wr) := by
  obtain ⟨f, fd, h1, h2, h3, h4⟩ := C.ex
  exact pw_callM i h1 hgd (hr.mono hj) h2 h3 h4 hx ha hN hv hd hcd hg hdb he hpl
theorem pw_ck {fs : FS} {kws : List Keyword} {ks : List Str} {ix : List Nat} (C : CalK X.prog X.w X.K X.mg X.base j x ps (spF X.mg fs) ks ix) (hgd : X.A.guards = some []) (hr : Room k X.A) (hx : Passes (L2.CX X.prog X.w) X E) (ha : PWK X E kws wr) (hj : j ≤ k := by decide)
    (hl : ks.length = ix.length := by rfl) (hg : Gl X x := by rfl) (hall : (backToKw pos (keywordEach kws X.env)).all (·.1.isSome) = true := by rfl) (hks : (backToKw pos (keywordEach kws X.env)).filterMap (·.1) = ks := by rfl)
    (hdb : (x == ("__debug__" : Str)) = false := by decide) (hpl : ((backTo pos (starEach [] X.env)).any (·.1) || (backToKw pos (keywordEach kws X.env)).any (·.1.isNone)) = false := by rfl) :
    PWE X E (.Call (.Name x p) [] kws pos) (wCallK ix fs wr) := by
  obtain ⟨f, fd, h1, h2, h3, h4⟩ := C.ex
  exact pw_callK h1 hgd (hr.mono hj) h2 h3 h4 hx ha hl hg hall hks hdb hpl
/-- -e -/
@[reducible] def wNeg (wa : WE) : WE := fun ex Γ Q => wa ex Γ fun d _ Γ1 => match d with
  | .int i => Q (.int (-i)) true Γ1
  | _ => False
theorem pw_neg (ha : PWE X E a wa) : PWE X E (.UnaryOp .USub a pos) (wNeg wa) := by
  obtain ⟨t, pt, kt⟩ := ha
  refine ⟨_, pe_un un_neg pt, fun R F H σ Γ ex Q Qt g h eq w => kt R F H σ Γ ex _ _ g h (fun v F1 H1 Γ1 d fr h1 x1 r1 w1 => ?_) w⟩
  cases d with
  | int i => exact ⟨i, rp_int r1, eq _ F1 H1 Γ1 _ true h1 x1 (.int _) w1⟩
  | _ => exact w1.elim
end
section
variable {P : Program} {w : World} {K : PySem.W.Frag} {mg : Str → Option Value} {base : Heap} {k j : Nat} {x : Str} {ps : List Str} {sp : Sp}
theorem CalD.up (C : CalD P w K mg base j x ps sp) (h : j ≤ k) : CalD P w K mg base k x ps sp := by
  obtain ⟨f, fd, h1, h2, h3, h4⟩ := C.ex
  exact ⟨f, fd, h1.up h, h2, h3, h4⟩
end
end Y

/-! Y: part 18: a block whose new lists are lengthened at its end, and forgotten. -/
namespace Y
open PySem PySem.Spec PyProof.Rows L2

mutual
theorem Rp.det {F : Hp} : ∀ {v : V} {d d' : D}, Rp F v d → plain d = true → Rp F v d' → plain d' = true → d = d'
  | _, _, _, .non, _, h, p => by cases h <;> first | rfl | (unfold plain at p; cases p)
  | _, _, _, .bl b, _, h, p => by cases h <;> first | rfl | (unfold plain at p; cases p)
  | _, _, _, .int b, _, h, p => by cases h <;> first | rfl | (unfold plain at p; cases p)
  | _, _, _, .str b, _, h, p => by cases h <;> first | rfl | (unfold plain at p; cases p)
  | _, _, _, .opq b, p, _, _ => by unfold plain at p; cases p
  | _, _, _, .lst e r, p, h, p' => by
    cases h with
    | lst e2 r2 =>
      rw [e] at e2
      cases e2
      unfold plain at p p'
      rw [RpAll.det r p r2 p']
    | tup e2 r2 => rw [e] at e2; cases e2
    | dk e2 r2 => rw [e] at e2; cases e2
    | dt e2 r2 => rw [e] at e2; cases e2
    | opq => unfold plain at p'; cases p'
  | _, _, _, .tup e r, p, h, p' => by
    cases h with
    | tup e2 r2 =>
      rw [e] at e2
      cases e2
      unfold plain at p p'
      rw [RpAll.det r p r2 p']
    | lst e2 r2 => rw [e] at e2; cases e2
    | dk e2 r2 => rw [e] at e2; cases e2
    | dt e2 r2 => rw [e] at e2; cases e2
    | opq => unfold plain at p'; cases p'
  | _, _, _, .dk _ _, p, _, _ => by unfold plain at p; cases p
  | _, _, _, .dt _ _, p, _, _ => by unfold plain at p; cases p
theorem RpAll.det {F : Hp} : ∀ {v : List V} {d d' : List D}, RpAll F v d → plainAll d = true → RpAll F v d' → plainAll d' = true → d = d'
  | _, _, _, .nil, _, h, _ => by cases h; rfl
  | _, _, _, .cons a r, p, h, p' => by
    cases h with
    | cons a2 r2 =>
      unfold plainAll at p p'
      obtain ⟨h1, h2⟩ := Bool.and_eq_true_iff.mp p
      obtain ⟨h3, h4⟩ := Bool.and_eq_true_iff.mp p'
      rw [Rp.det a h1 a2 h3, RpAll.det r h2 r2 h4]
end

/-! ### a block in a frame of its own -/
abbrev WB := DE → En → Prop
def SSB (X : Cx) (E : XK) (ts : TS) (w : WB) : Prop := ∀ (R : Rl) (F H0 : Hp) (σ0 : L2.St) (Γ0 : En) (F' H : Hp) (σ : L2.St) (Γ : En) (P : DE) (T : Ends), Go X R E P.xe → Hd R F H0 σ0 Γ0 → Hd (R.from F H0 R.io) F' H σ Γ → Sim R F P T → w P Γ → ts T σ H
def PWB (X : Cx) (E : XK) (s : List Stmt) (w : WB) : Prop := ∃ ts : TS, PSs X s ts ∧ SSB X E ts w
@[reducible] def wBlk (w : WB) : WS := fun P Γ => w P (dim true Γ)
section
variable {X : Cx} {E : XK} {s : Stmt} {rest : List Stmt} {wt : WS} {wu : WB}
theorem pws_blk {l : List Stmt} {w : WB} (h : PWB X E l w) : PWSs X E l (wBlk w) := by
  obtain ⟨t, pt, kt⟩ := h
  exact ⟨t, pt, fun R F H σ Γ P T g h s w => kt R F H σ Γ F H σ (dim true Γ) P T g h h.rebase s w⟩
abbrev endB (P : DE) (n : En → Prop) : DE := { nx := n, rt := fun d fr Γ2 => P.rt d fr (und true Γ2), bk := fun Γ2 => P.bk (und true Γ2), ct := fun Γ2 => P.ct (und true Γ2), xe := P.xe }
@[reducible] def wBSeq (t : WS) (u : WB) : WB := fun P Γ => t (endB P (u P)) Γ
theorem ioTrue {R : Rl} : IoBack R R.io true := rfl
theorem pwb_cons (h1 : PWS X E s wt) (h2 : PWB X E rest wu) : PWB X E (s :: rest) (wBSeq wt wu) := by
  obtain ⟨t, pt, kt⟩ := h1
  obtain ⟨u, pu, ku⟩ := h2
  refine ⟨_, pss_cons pt pu, fun R F H0 σ0 Γ0 F' H σ Γ P T g h h' s w => ?_⟩
  have x : Ex F F' := h'.f0
  refine kt (R.from F H0 R.io) F' H σ Γ (endB P (wu P)) { T with nx := u T } (g.rebase h ioTrue) h' ?_ w
  exact ⟨fun F2 H2 σ2 Γ2 hh xx q => ku R F H0 σ0 Γ0 F2 H2 σ2 Γ2 P T g h hh s q, fun v F2 H2 σ2 Γ2 d fr hh xx rv q => s.rt v F2 H2 σ2 (und true Γ2) d fr (h.unbase hh ioTrue) (x.trans xx) (Rp.mono (fF_back h) rv) q,
    fun F2 H2 σ2 Γ2 hh xx q => s.bk F2 H2 σ2 (und true Γ2) (h.unbase hh ioTrue) (x.trans xx) q, fun F2 H2 σ2 Γ2 hh xx q => s.ct F2 H2 σ2 (und true Γ2) (h.unbase hh ioTrue) (x.trans xx) q⟩
end

/-! ### lengthened lists -/
def JSl (R : Rl) (F G H : Hp) (v : V) : Sl → Prop
  | .dat d fr => (flt d = true → Rp H00 v d) ∧ (fr = true → Rp G v d)
  | .old d => Rp F v d
  | .raw u => v = u
  | .ino o => ∃ p, v = .ref p ∧ R.io = some p ∧ ∀ os, o = .lst os → os.all flt = true → ∃ us, H p = some (.lst us) ∧ RpAll H00 us os
  | _ => True
def isIno : Sl → Bool
  | .ino _ => true
  | _ => false
/-- some of the block's new lists are longer than they were: by n items at most; those whose contents were not md are as they were -/
structure JS (R : Rl) (F H0 G H : Hp) (σ : L2.St) (Γ : En) (n : Nat) (md : List (List D)) : Prop where
  base : ∀ a o, H0 a = some o → R.io ≠ some a → H a = some o
  iof : ∀ a, R.io = some a → H a ≠ none
  len : Γ.length = σ.length
  sl : ∀ i s, gt Γ i = some s → ∃ v, σ[i]? = some (some v) ∧ JSl R F G H v s
  sep : ∀ i j s t p, gt Γ i = some s → gt Γ j = some t → isIno s = true → isIno t = true → σ[i]? = some (some (.ref p)) → σ[j]? = some (some (.ref p)) → i = j
  new : ∀ q o, G q = some o → H0 q = none
  grow : ∀ q es, Rp G (.ref q) (.lst es) → plainAll es = true → ∃ vs t, G q = some (.lst vs) ∧ RpAll G vs es ∧ H q = some (.lst (vs ++ t)) ∧ t.length ≤ n ∧ (es ∉ md → t = [])
section
variable {R : Rl} {F H0 G H F' : Hp} {σ : L2.St} {Γ : En} {n : Nat} {md : List (List D)}
theorem JS.start {σ0 : L2.St} {Γ0 : En} (h : Hd R F H0 σ0 Γ0) (h' : Hd (R.from F H0 R.io) F' H σ Γ) : JS R F H0 (nw H0 F') H σ Γ 0 [] where
  base := fun a o e n => h'.base a o e n
  iof := fun a e => (h'.iof a e).2.2
  len := h'.len
  sl := fun i s e => by
    obtain ⟨v, e1, ok⟩ := h'.sl i s e
    refine ⟨v, e1, ?_⟩
    cases s with
    | dat d fr => exact ⟨fun hf => flt_rp hf ok, fun hf => by subst hf; exact ok⟩
    | old d => exact ok
    | raw u => exact ok
    | ino o =>
      obtain ⟨p, e1, e2, t⟩ := ok
      refine ⟨p, e1, e2, fun os eo hf => ?_⟩
      subst eo
      obtain ⟨us, eu, ru⟩ := t
      exact ⟨us, eu, flt_all hf ru⟩
    | own _ _ => exact True.intro
    | scr _ => exact True.intro
  sep := fun i j s t p e1 e2 o1 o2 p1 p2 => by
    refine h'.sep i j s t p e1 e2 ?_ ?_ p1 p2
    · cases s <;> first | rfl | cases o1
    · cases t <;> first | rfl | cases o2
  new := fun q o e => by
    unfold nw at e
    cases z : H0 q with
    | none => rfl
    | some u => rw [z] at e; cases e
  grow := fun q es r p => by
    cases r with
    | lst z ra => exact ⟨_, [], z, ra, by rw [List.append_nil]; exact RdD.lst (h'.sub _ _ (nw_ex _ _ z)), Nat.le_refl _, fun _ => rfl⟩
theorem JS.io (j : JS R F H0 G H σ Γ n md) {σ0 : L2.St} {Γ0 : En} (h : Hd R F H0 σ0 Γ0) {q : Addr} {o : HO} (e : G q = some o) : R.io ≠ some q := fun z => (h.iof q z).2.2 (j.new q o e)
/-- one list is lengthened -/
theorem JS.push (j : JS R F H0 G H σ Γ n md) {σ0 : L2.St} {Γ0 : En} (h : Hd R F H0 σ0 Γ0) {p : Addr} {fs : List D} (r : Rp G (.ref p) (.lst fs)) (pl : plainAll fs = true) {ws : List V} (hp : H p = some (.lst ws)) (v : V) : JS R F H0 G (upd H p (.lst (ws ++ [v]))) σ Γ (n + 1) (fs :: md) := by
  obtain ⟨vs, t, e1, e2, e3, e4, e5⟩ := j.grow p fs r pl
  have nio : R.io ≠ some p := j.io h e1
  exact {
    base := fun a o e na => by
      rw [upd_ne (fun z => by rw [z, j.new p _ e1] at e; cases e)]
      exact j.base a o e na
    iof := fun a e => by
      rw [upd_ne (fun z => nio (by rw [← z]; exact e))]
      exact j.iof a e
    len := j.len
    sl := fun i s e => by
      obtain ⟨u, z1, ok⟩ := j.sl i s e
      refine ⟨u, z1, ?_⟩
      cases s with
      | ino o =>
        obtain ⟨q, y1, y2, y3⟩ := ok
        refine ⟨q, y1, y2, fun os eo hf => ?_⟩
        obtain ⟨us, eu, ru⟩ := y3 os eo hf
        exact ⟨us, by rw [upd_ne (fun z => nio (by rw [← z]; exact y2))]; exact eu, ru⟩
      | dat d fr => exact ok
      | old d => exact ok
      | raw u => exact ok
      | own _ _ => exact ok
      | scr _ => exact ok
    sep := j.sep
    new := j.new
    grow := fun q es rq pq => by
      obtain ⟨vs2, t2, y1, y2, y3, y4, y5⟩ := j.grow q es rq pq
      by_cases hq : q = p
      · subst hq
        have ed : D.lst es = D.lst fs := Rp.det rq (by unfold plain; exact pq) r (by unfold plain; exact pl)
        cases ed
        rw [hp] at y3
        cases y3
        refine ⟨vs2, t2 ++ [v], y1, y2, by rw [upd_same, List.append_assoc], by rw [List.length_append, List.length_singleton]; omega, fun z => absurd List.mem_cons_self z⟩
      · exact ⟨vs2, t2, y1, y2, by rw [upd_ne hq]; exact y3, by omega, fun z => y5 fun z2 => z (List.mem_cons_of_mem _ z2)⟩ }
theorem JS.forget (j : JS R F H0 G H σ Γ n md) (i : Nat) {σ' : L2.St} (hl : σ'.length = σ.length) (ho : ∀ k, k ≠ i → σ'[k]? = σ[k]?) : JS R F H0 G H σ' (st Γ i none) n md where
  base := j.base
  iof := j.iof
  len := by rw [st_length, hl]; exact j.len
  sl := fun k s e => by
    by_cases hk : k = i
    · subst hk
      have hl := gt_lt e
      rw [st_length] at hl
      rw [gt_st_same hl] at e
      cases e
    · rw [gt_st_ne hk] at e
      obtain ⟨u, e1, ok⟩ := j.sl k s e
      exact ⟨u, by rw [ho k hk]; exact e1, ok⟩
  sep := fun a b s t p e1 e2 o1 o2 p1 p2 => by
    have key : ∀ {a : Nat} {s : Sl}, gt (st Γ i none) a = some s → a ≠ i := fun {a s} e z => by
      subst z
      have hl := gt_lt e
      rw [st_length] at hl
      rw [gt_st_same hl] at e
      cases e
    have na := key e1
    have nb := key e2
    rw [gt_st_ne na] at e1
    rw [gt_st_ne nb] at e2
    rw [ho a na] at p1
    rw [ho b nb] at p2
    exact j.sep a b s t p e1 e2 o1 o2 p1 p2
  new := j.new
  grow := j.grow
theorem JS.more (j : JS R F H0 G H σ Γ n md) {m : Nat} {me : List (List D)} (hn : n ≤ m) (hm : ∀ x ∈ md, x ∈ me) : JS R F H0 G H σ Γ m me :=
  ⟨j.base, j.iof, j.len, j.sl, j.sep, j.new, fun q es r p => by
    obtain ⟨vs, t, e1, e2, e3, e4, e5⟩ := j.grow q es r p
    exact ⟨vs, t, e1, e2, e3, by omega, fun z => e5 fun z2 => z (hm _ z2)⟩⟩
/-- what is left behind the block -/
@[reducible] def outS : Option Sl → Option Sl
  | some (.dat d _) => if flt d = true then some (.dat d true) else none
  | some (.old d) => some (.dat d false)
  | some (.raw v) => some (.raw v)
  | some (.ino (.lst os)) => if os.all flt = true then some (.ino (.lst os)) else none
  | _ => none
@[reducible] def out (Γ : En) : En := mpS outS Γ
theorem gt_out {Γ : En} {i : Nat} : gt (out Γ) i = outS (gt Γ i) := gt_map rfl
theorem JS.out (j : JS R F H0 G H σ Γ n md) {σ0 : L2.St} {Γ0 : En} (h : Hd R F H0 σ0 Γ0) : Hd R F H σ (out Γ) where
  sub := fun a u e => by
    have nio : R.io ≠ some a := fun z => by rw [(h.iof a z).1] at e; cases e
    rcases h.sub a u e with q | ⟨q, o, q2⟩
    · exact .inl (j.base a _ q nio)
    · exact .inr ⟨q, o, j.base a _ q2 nio⟩
  base := fun a o e na => j.base a o (h.base a o e na) na
  f0 := h.f0
  new := h.new
  iof := fun a e => ⟨(h.iof a e).1, (h.iof a e).2.1, j.iof a e⟩
  len := by unfold Y.out; rw [mpS_length]; exact j.len
  sl := fun i s e => by
    rw [gt_out] at e
    cases q : gt Γ i with
    | none => rw [q] at e; cases e
    | some t =>
      rw [q] at e
      obtain ⟨v, e1, ok⟩ := j.sl i t q
      refine ⟨v, e1, ?_⟩
      cases t with
      | dat d fr =>
        have e' : (if flt d = true then some (Sl.dat d true) else none) = some s := e
        by_cases hf : flt d = true
        · rw [if_pos hf] at e'
          cases e'
          exact flt_rp hf (ok.1 hf)
        · rw [if_neg hf] at e'
          cases e'
      | old d => cases e; exact ok
      | raw u => cases e; exact ok
      | ino o =>
        cases o with
        | lst os =>
          have e' : (if os.all flt = true then some (Sl.ino (.lst os)) else none) = some s := e
          by_cases hf : os.all flt = true
          · rw [if_pos hf] at e'
            cases e'
            obtain ⟨p, y1, y2, y3⟩ := ok
            obtain ⟨us, eu, ru⟩ := y3 os rfl hf
            exact ⟨p, y1, y2, us, eu, ru.mono fun _ _ z => by cases z⟩
          · rw [if_neg hf] at e'
            cases e'
        | _ => cases e
      | own _ _ => cases e
      | scr _ => cases e
  sep := fun a b s t p e1 e2 o1 o2 p1 p2 => by
    have key : ∀ {a : Nat} {s : Sl}, gt (Y.out Γ) a = some s → owny s = true → ∃ t, gt Γ a = some t ∧ isIno t = true := fun {a s} e o => by
      rw [gt_out] at e
      cases q : gt Γ a with
      | none => rw [q] at e; cases e
      | some t =>
        rw [q] at e
        cases t with
        | ino o => exact ⟨_, rfl, rfl⟩
        | dat d fr =>
          have e' : (if flt d = true then some (Sl.dat d true) else none) = some s := e
          by_cases hf : flt d = true
          · rw [if_pos hf] at e'
            cases e'
            cases o
          · rw [if_neg hf] at e'
            cases e'
        | old d => cases e; cases o
        | raw u => cases e; cases o
        | own _ _ => cases e
        | scr _ => cases e
    obtain ⟨t1, a1, b1⟩ := key e1 o1
    obtain ⟨t2, a2, b2⟩ := key e2 o2
    exact j.sep a b t1 t2 p a1 a2 b1 b2 p1 p2
end
abbrev WJ := Nat → List (List D) → DE → En → Prop
def SJ (X : Cx) (E : XK) (ts : TS) (w : WJ) : Prop := ∀ (R : Rl) (F H0 : Hp) (σ0 : L2.St) (Γ0 : En) (G H : Hp) (σ : L2.St) (Γ : En) (n : Nat) (md : List (List D)) (P : DE) (T : Ends), Go X R E P.xe → Hd R F H0 σ0 Γ0 → JS R F H0 G H σ Γ n md → Sim R F P T → w n md P Γ → ts T σ H
def PWJ (X : Cx) (E : XK) (s : List Stmt) (w : WJ) : Prop := ∃ ts : TS, PSs X s ts ∧ SJ X E ts w
section
variable {X : Cx} {E : XK} {s : Stmt} {rest : List Stmt} {pos p p1 p2 pc apos pe : Pos} {x y : Str} {wj : WJ}
@[reducible] def wSp (w : WJ) : WB := fun P Γ => w 0 [] P Γ
theorem pwb_sp {l : List Stmt} {w : WJ} (h : PWJ X E l w) : PWB X E l (wSp w) := by
  obtain ⟨t, pt, kt⟩ := h
  exact ⟨t, pt, fun R F H0 σ0 Γ0 F' H σ Γ P T g h h' s w => kt R F H0 σ0 Γ0 (nw H0 F') H σ Γ 0 [] P T g h (.start h h') s w⟩
@[reducible] def wJEnd (w : WS) : WJ := fun _ _ P Γ => w P (out Γ)
theorem pwj_end {l : List Stmt} {w : WS} (h : PWSs X E l w) : PWJ X E l (wJEnd w) := by
  obtain ⟨t, pt, kt⟩ := h
  exact ⟨t, pt, fun R F H0 σ0 Γ0 G H σ Γ n md P T g h j s w => kt R F H σ (out Γ) P T g (j.out h) s w⟩
theorem atI_nat {α : Type} {xs : List α} {k : Nat} {v : α} (h : xs[k]? = some v) : atI xs (k : Int) = some v := by
  obtain ⟨hl, _⟩ := List.getElem?_eq_some_iff.mp h
  unfold atI ixN
  rw [if_pos (by omega), if_pos (by omega)]
  simpa using h
/-- x[k].append(None) -/
@[reducible] def wSp1 (i k : Nat) (rest : WJ) : WJ := fun n md P Γ => ∃ ds es, gt Γ i = some (.dat (.lst ds) true) ∧ plainAll ds = true ∧ ds[k]? = some (.lst es) ∧ es.length + n < sizeLine ∧ rest (n + 1) (es :: md) P Γ
theorem plainAll_get {ds : List D} {k : Nat} {es : List D} (h : plainAll ds = true) (e : ds[k]? = some (.lst es)) : plainAll es = true := by
  have z := plainAll_mem h _ (List.mem_of_getElem? e)
  unfold plain at z
  exact z
theorem pwj_sp1 (i k : Nat) (hr : PWJ X E rest wj) (hN : X.N[i]? = some x := by rfl) (hv : Vis X.env.scope x := by first | exact Or.inl rfl | exact Or.inr (Or.inl rfl) | exact Or.inr (Or.inr rfl)) (hd : (x == ("__debug__" : Str)) = false := by decide) (hcd : (x == ("__classdict__" : Str)) = false := by decide)
    {kk kn : Nat} (hbase : attributeBase (.Subscript (.Name x p) (.Constant (.int k) kk pc) p1) "append" X.env (eval (.Subscript (.Name x p) (.Constant (.int k) kk pc) p1) X.env) = eval (.Subscript (.Name x p) (.Constant (.int k) kk pc) p1) X.env := by rfl)
    (hfew : ((backTo pos (starEach (.Constant .none kn pe :: []) X.env)).all (fun x => !x.1) && (backToKw pos (keywordEach [] X.env)).all (fun x => x.1.isSome) && decide ((Expr.Constant .none kn pe :: []).length + ([] : List Keyword).length + (if ([] : List Keyword).isEmpty then 0 else 1) < 30)) = true := by rfl)
    (hline : (apos.endLine == pos.line) = true := by rfl) (hs : starEach (.Constant .none kn pe :: []) X.env = (false, eval (.Constant .none kn pe) X.env) :: starEach [] X.env := by rfl) (hplain : (backTo pos (starEach [] X.env)).any (·.1) = false := by rfl)
    (hsw : swapsWith (.Call (.Attribute (.Subscript (.Name x p) (.Constant (.int k) kk pc) p1) "append" apos) [.Constant .none kn pe] [] pos) none p2.line X.env = pure false := by rfl) :
    PWJ X E (.Expr (.Call (.Attribute (.Subscript (.Name x p) (.Constant (.int k) kk pc) p1) "append" apos) [.Constant .none kn pe] [] pos) p2 :: rest) (wSp1 i k wj) := by
  obtain ⟨t, pt, kt⟩ := hr
  refine ⟨_, pss_cons (ps_expr (pe_bm PySem.F.plainAttrs_list PySem.F.slot_list_append PySem.F.type_list_append mt_append (pe_ix ix_list (pe_var hN hv hd hcd) pe_int (by intro _ _; rfl)) (pa_cons pe_non pa_nil hs) hbase hfew hline hs hplain) hsw) pt, fun R F H0 σ0 Γ0 G H σ Γ n md P T g h j s w => ?_⟩
  obtain ⟨ds, es, e1, pl, ek, hsz, w⟩ := w
  obtain ⟨v, z1, _, z3⟩ := j.sl i _ e1
  have rv := z3 rfl
  cases rv with
  | @lst q vs _ eg ra =>
    obtain ⟨vs', t', y1, y2, y3, y4, _⟩ := j.grow q ds (.lst eg ra) pl
    rw [eg] at y1
    cases y1
    obtain ⟨u, eu, ru⟩ := y2.get ek
    have ple := plainAll_get pl ek
    cases ru with
    | @lst q2 vs2 _ eg2 ra2 =>
      obtain ⟨vs3, t3, x1, x2, x3, x4, _⟩ := j.grow q2 es (.lst eg2 ra2) ple
      have l3 := x2.length
      have eu' : (vs ++ t')[k]? = some (.ref q2) := by
        obtain ⟨hl, _⟩ := List.getElem?_eq_some_iff.mp eu
        rw [List.getElem?_append_left hl]
        exact eu
      refine ⟨.ref q, z1, q, vs ++ t', (k : Int), .ref q2, rfl, rfl, sql_of y3, atI_nat eu', ?_⟩
      refine ⟨.inl ⟨rfl, _, sql_of x3⟩, q2, vs3 ++ t3, .non, rfl, rfl, x3, by rw [List.length_append]; omega, ?_⟩
      exact kt R F H0 σ0 Γ0 G _ σ Γ (n + 1) (es :: md) P T g h (j.push h (.lst eg2 ra2) ple x3 .non) s w
/-- a list is none of its own items -/
theorem not_item : ∀ (fs : List D) (ds : List D), D.lst fs ∈ ds → fs ≠ ds := fun fs ds h e => by
  subst e
  have := List.sizeOf_lt_of_mem h
  simp at this
  omega
theorem st_st : ∀ (Γ : En) (i : Nat) (s t : Option Sl), st (st Γ i s) i t = st Γ i t
  | [], _, _, _ => rfl
  | _ :: _, 0, _, _ => rfl
  | a :: r, i + 1, s, t => congrArg (a :: ·) (st_st r i s t)
/-- for y in x[k]: y.append(None) -/
@[reducible] def wSp2 (i k jy : Nat) (rest : WJ) : WJ := fun n md P Γ => ∃ (ds : List D) (fss : List (List D)), gt Γ i = some (.dat (.lst ds) true) ∧ jy < Γ.length ∧ plainAll ds = true ∧ ds[k]? = some (.lst (fss.map .lst)) ∧ fss.map D.lst ∉ md ∧ (∀ fs ∈ fss, fs.length + n + fss.length < sizeLine) ∧ rest (n + fss.length) (fss ++ md) P (st Γ jy none)
theorem pwj_sp2 (i k jy : Nat) {py pa p3 : Pos} {kk kn : Nat} (hp : PassesOwn (model X.prog X.w) X.A X.env X.xe) (hc : X.calm = true) (hNd : X.N.Nodup) (hr : PWJ X E rest wj) (hN : X.N[i]? = some x := by rfl) (hv : Vis X.env.scope x := by first | exact Or.inl rfl | exact Or.inr (Or.inl rfl) | exact Or.inr (Or.inr rfl)) (hd : (x == ("__debug__" : Str)) = false := by decide) (hcd : (x == ("__classdict__" : Str)) = false := by decide)
    (hNy : X.N[jy]? = some y := by rfl) (hy : Loc X.env.scope y := by first | exact Or.inl rfl | exact Or.inr rfl) (hf : X.fn y = true ∨ X.env.scope.names.lookup y = some .local := by first | exact .inl rfl | exact .inr rfl | assumption) (hvy : Vis X.env.scope y := by first | exact Or.inl rfl | exact Or.inr (Or.inl rfl) | exact Or.inr (Or.inr rfl)) (hdy : (y == ("__debug__" : Str)) = false := by decide) (hcdy : (y == ("__classdict__" : Str)) = false := by decide)
    (hbase : attributeBase (.Name y pa) "append" X.env (eval (.Name y pa) X.env) = eval (.Name y pa) X.env := by rfl)
    (hfew : ((backTo pos (starEach (.Constant .none kn pe :: []) X.env)).all (fun x => !x.1) && (backToKw pos (keywordEach [] X.env)).all (fun x => x.1.isSome) && decide ((Expr.Constant .none kn pe :: []).length + ([] : List Keyword).length + (if ([] : List Keyword).isEmpty then 0 else 1) < 30)) = true := by rfl)
    (hline : (apos.endLine == pos.line) = true := by rfl) (hs : starEach (.Constant .none kn pe :: []) X.env = (false, eval (.Constant .none kn pe) X.env) :: starEach [] X.env := by rfl) (hplain : (backTo pos (starEach [] X.env)).any (·.1) = false := by rfl)
    (hsw : swapsWith (.Call (.Attribute (.Name y pa) "append" apos) [.Constant .none kn pe] [] pos) none p2.line X.env = pure false := by rfl)
    (hfs : ∀ v, foldedSetIterable (.Subscript (.Name x p) (.Constant (.int k) kk pc) p1) X.env v = pure v := by intro _; rfl) :
    PWJ X E (.For (.Name y py) (.Subscript (.Name x p) (.Constant (.int k) kk pc) p1) [.Expr (.Call (.Attribute (.Name y pa) "append" apos) [.Constant .none kn pe] [] pos) p2] [] p3 :: rest) (wSp2 i k jy wj) := by
  obtain ⟨t, pt, kt⟩ := hr
  refine ⟨_, pss_cons (ps_for hp hc (pi_list (pe_ix ix_list (pe_var hN hv hd hcd) pe_int (by intro _ _; rfl))) (pg_name hNd hNy hy hf) (pss_one (ps_expr (pe_bm PySem.F.plainAttrs_list PySem.F.slot_list_append PySem.F.type_list_append mt_append (pe_var hNy hvy hdy hcdy) (pa_cons pe_non pa_nil hs) hbase hfew hline hs hplain) hsw)) hfs) pt, fun R F H0 σ0 Γ0 G H σ Γ n md P T g h j s w => ?_⟩
  obtain ⟨ds, fss, e1, hj, pl, ek, nmd, hsz, w⟩ := w
  obtain ⟨v, z1, _, z3⟩ := j.sl i _ e1
  have hjσ : jy < σ.length := by rw [← j.len]; exact hj
  have rv := z3 rfl
  cases rv with
  | @lst q vs _ eg ra =>
    obtain ⟨vs', t', y1, y2, y3, y4, _⟩ := j.grow q ds (.lst eg ra) pl
    rw [eg] at y1
    cases y1
    obtain ⟨u, eu, ru⟩ := y2.get ek
    have ple := plainAll_get pl ek
    cases ru with
    | @lst q2 vs2 _ eg2 ra2 =>
      have rq : Rp G (.ref q2) (.lst (fss.map .lst)) := .lst eg2 ra2
      have l2 := ra2.length
      rw [List.length_map] at l2
      have eu' : (vs ++ t')[k]? = some (.ref q2) := by
        obtain ⟨hl, _⟩ := List.getElem?_eq_some_iff.mp eu
        rw [List.getElem?_append_left hl]
        exact eu
      -- the walked list stands while none of its contents is changed
      have stands : ∀ {H' σ' Γ' n' md'}, JS R F H0 G H' σ' Γ' n' md' → fss.map D.lst ∉ md' → H' q2 = some (.lst vs2) := fun {H' σ' Γ' n' md'} j' nm => by
        obtain ⟨vs4, t4, x1, x2, x3, x4, x5⟩ := j'.grow q2 _ rq ple
        rw [eg2] at x1
        cases x1
        rw [x5 nm, List.append_nil] at x3
        exact x3
      have nmc : ∀ c, fss.map D.lst ∉ fss.take c ++ md := fun c z => by
        rcases List.mem_append.mp z with z | z
        · exact not_item _ _ (List.mem_map_of_mem (List.mem_of_mem_take z)) rfl
        · exact nmd z
      show tFor _ _ _ _ σ H
      refine ⟨.ref q, z1, q, vs ++ t', (k : Int), .ref q2, rfl, rfl, sql_of y3, atI_nat eu', q2, rfl, ⟨_, sql_of (stands j nmd)⟩, ?_⟩
      refine ⟨fun c m σ' H' => m = fss.length - c ∧ c ≤ fss.length ∧ σ'.length = σ.length ∧ JS R F H0 G H' σ' (st Γ jy none) (n + c) (fss.take c ++ md), ⟨fss.length, rfl, Nat.zero_le _, rfl, (j.forget jy rfl fun _ _ => rfl).more (by omega) fun x hx => List.mem_append_right _ hx⟩, ?_⟩
      rintro c m σ' H' ⟨em, hcl, lσ, jc⟩
      have hq2 := stands jc (nmc c)
      by_cases hlt : c < fss.length
      · have hgc : (fss.map D.lst)[c]? = some (.lst fss[c]) := by rw [List.getElem?_map, List.getElem?_eq_getElem hlt]; rfl
        obtain ⟨vp, ep, rp⟩ := ra2.get hgc
        refine .inr ⟨⟨vs2, vp, sql_of hq2, ep⟩, fun σ' H' => σ'.length = σ.length ∧ JS R F H0 G H' σ' (st Γ jy none) (n + (c + 1)) (fss.take (c + 1) ++ md), fun σ' H' z => ⟨fss.length - (c + 1), by omega, rfl, hlt, z⟩, fun xv H2 hy2 => ?_⟩
        obtain ⟨eH, hx⟩ := hy2
        subst eH
        have ex := hx _ (sql_of hq2)
        rw [ep] at ex
        cases ex
        have plc : plainAll fss[c] = true := plainAll_get ple hgc
        have hmem : fss[c] ∈ fss := List.getElem_mem hlt
        have jc2 := jc.forget jy (σ' := σ'.set jy (some vp)) (by rw [List.length_set]) fun k hk => List.getElem?_set_ne (Ne.symm hk)
        rw [st_st] at jc2
        cases rp with
        | @lst pc vpc _ ec rc =>
          obtain ⟨vs5, t5, x1, x2, x3, x4, _⟩ := jc2.grow pc _ (.lst ec rc) plc
          have l5 := x2.length
          have hz := hsz _ hmem
          refine ⟨.ref pc, List.getElem?_set_self (by rw [lσ]; exact hjσ), .inl ⟨rfl, _, sql_of x3⟩, pc, vs5 ++ t5, .non, rfl, rfl, x3, by rw [List.length_append]; omega, ?_⟩
          refine ⟨by rw [List.length_set]; exact lσ, (jc2.push h (.lst ec rc) plc x3 .non).more (m := n + (c + 1)) (by omega) fun x hx => ?_⟩
          rw [List.take_succ_eq_append_getElem hlt, List.append_assoc]
          rcases List.mem_cons.mp hx with z | z
          · rw [z]; exact List.mem_append_right _ List.mem_cons_self
          · rcases List.mem_append.mp z with z | z
            · exact List.mem_append_left _ z
            · exact List.mem_append_right _ (List.mem_cons_of_mem _ z)
      · have ec : c = fss.length := by omega
        subst ec
        rw [List.take_length] at jc
        exact .inl ⟨⟨vs2, sql_of hq2, by omega⟩, kt R F H0 σ0 Γ0 G H' σ' _ _ _ P T g h jc s w⟩
end
end Y

/-! Q: the pure side, part 1: data of nets, what wps come to. -/
namespace Q
open PySem L2 Y

/-- an arrow, arrows, numbers as data -/
abbrev prD (p : Int × Int) : D := .lst [.int p.1, .int p.2]
abbrev arD (l : List (Int × Int)) : D := .lst (l.map prD)
abbrev inD (l : List Int) : D := .lst (l.map .int)

/-! ### a comprehension's turns that leave the slots as they were -/
def LcIt (tg : WG) (tt : WT) (te : WE) (vs : List Nat) (Γ : En) (x : D × Bool) (r : Option (D × Bool)) : Prop :=
  ∀ (KT : D → Bool → En → Prop) (KF : En → Prop), (∀ Γ', rs Γ Γ' vs = Γ → match r with
    | some (d, fr) => KT d fr Γ'
    | none => KF Γ') → tg x.1 x.2 (wp Γ vs) fun Γ1 => tt ex0 Γ1 fun b Γ2 => ifB b (te ex0 Γ2 KT) (KF Γ2)
theorem lc_all {tg : WG} {tt : WT} {te : WE} {vs : List Nat} {dp : Dep} {Γ : En} (g : D × Bool → Option (D × Bool)) (hd : depE Γ dp) : ∀ (items : List (D × Bool)) (acc : List D) (f : Bool) (K : List D → Bool → En → Prop),
    (∀ x ∈ items, LcIt tg tt te vs Γ x (g x)) → K (acc ++ (items.filterMap g).map (·.1)) (f && (items.filterMap g).all (·.2)) Γ → lcGo tg tt te vs dp items acc f Γ K
  | [], acc, f, K, _, k => by
    refine ⟨hd, ?_⟩
    simpa using k
  | x :: xs, acc, f, K, h, k => by
    refine ⟨hd, ?_⟩
    have hx := h x List.mem_cons_self (fun d fr Γ3 => lcGo tg tt te vs dp xs (acc ++ [d]) (f && fr) (rs Γ Γ3 vs) K) (fun Γ2 => lcGo tg tt te vs dp xs acc f (rs Γ Γ2 vs) K)
    refine hx fun Γ' e => ?_
    have hr := fun y hy => h y (List.mem_cons_of_mem _ hy)
    cases q : g x with
    | none =>
      rw [List.filterMap_cons_none q] at k
      show lcGo tg tt te vs dp xs acc f (rs Γ Γ' vs) K
      rw [e]
      exact lc_all g hd xs acc f K hr k
    | some z =>
      obtain ⟨d, fr⟩ := z
      rw [List.filterMap_cons_some q] at k
      show lcGo tg tt te vs dp xs (acc ++ [d]) (f && fr) (rs Γ Γ' vs) K
      rw [e]
      refine lc_all g hd xs _ _ K hr ?_
      rw [List.append_assoc]
      simpa [Bool.and_assoc] using k
/-- the usual case: every item told by its source -/
theorem lc_map {α : Type} {tg : WG} {tt : WT} {te : WE} {vs : List Nat} {dp : Dep} {Γ : En} {K : List D → Bool → En → Prop} (l : List α) (src : α → D × Bool) (g : α → Option (D × Bool)) (hd : depE Γ dp)
    (h : ∀ a ∈ l, LcIt tg tt te vs Γ (src a) (g a)) (k : K ((l.filterMap g).map (·.1)) ((l.filterMap g).all (·.2)) Γ) : lcGo tg tt te vs dp (l.map src) [] true Γ K := by
  have main : ∀ (l : List α) (acc : List D) (f : Bool), (∀ a ∈ l, LcIt tg tt te vs Γ (src a) (g a)) → K (acc ++ (l.filterMap g).map (·.1)) (f && (l.filterMap g).all (·.2)) Γ → lcGo tg tt te vs dp (l.map src) acc f Γ K := by
    intro l
    induction l with
    | nil =>
      intro acc f _ k
      refine ⟨hd, ?_⟩
      simpa using k
    | cons a l ih =>
      intro acc f h k
      refine ⟨hd, ?_⟩
      have hx := h a List.mem_cons_self (fun d fr Γ3 => lcGo tg tt te vs dp (l.map src) (acc ++ [d]) (f && fr) (rs Γ Γ3 vs) K) (fun Γ2 => lcGo tg tt te vs dp (l.map src) acc f (rs Γ Γ2 vs) K)
      refine hx fun Γ' e => ?_
      have hr := fun y hy => h y (List.mem_cons_of_mem _ hy)
      cases q : g a with
      | none =>
        rw [List.filterMap_cons_none q] at k
        show lcGo tg tt te vs dp (l.map src) acc f (rs Γ Γ' vs) K
        rw [e]
        exact ih acc f hr k
      | some z =>
        obtain ⟨d, fr⟩ := z
        rw [List.filterMap_cons_some q] at k
        show lcGo tg tt te vs dp (l.map src) (acc ++ [d]) (f && fr) (rs Γ Γ' vs) K
        rw [e]
        refine ih _ _ hr ?_
        rw [List.append_assoc]
        simpa [Bool.and_assoc] using k
  exact main l [] true h (by simpa using k)
theorem all_true {α : Type} (l : List α) (g : α → D) : ((l.map fun a => (g a, true)).all (·.2)) = true := by
  induction l with
  | nil => rfl
  | cons a l ih => rw [List.map_cons, List.all_cons, ih]; rfl
/-- kept where c holds -/
theorem fil_map {α β : Type} (c : α → Bool) (g : α → β) : ∀ l : List α, (l.filterMap fun a => if c a = true then some (g a) else none) = (l.filter c).map g
  | [] => rfl
  | a :: l => by
    have ih := fil_map c g l
    cases h : c a with
    | true => rw [List.filterMap_cons_some (b := g a) (by rw [if_pos h]), List.filter_cons_of_pos h, List.map_cons, ih]
    | false => rw [List.filterMap_cons_none (by rw [if_neg (by rw [h]; exact Bool.false_ne_true)]), List.filter_cons_of_neg (by rw [h]; exact Bool.false_ne_true), ih]
theorem lc_filS {α : Type} {tg : WG} {tt : WT} {te : WE} {vs : List Nat} {dp : Dep} {Γ : En} {K : List D → Bool → En → Prop} {its : List (D × Bool)} (l : List α) (src : α → D × Bool) (c : α → Bool) (g : α → D) (hd : depE Γ dp)
    (h : ∀ a ∈ l, LcIt tg tt te vs Γ (src a) (if c a = true then some (g a, true) else none)) (k : K ((l.filter c).map g) true Γ) (hi : its = l.map src := by rfl) : lcGo tg tt te vs dp its [] true Γ K := by
  subst hi
  refine lc_map l src _ hd h ?_
  rw [fil_map c (fun a => (g a, true)) l, all_true, List.map_map]
  exact k
theorem lc_mapS {α : Type} {tg : WG} {tt : WT} {te : WE} {vs : List Nat} {dp : Dep} {Γ : En} {K : List D → Bool → En → Prop} {its : List (D × Bool)} (l : List α) (src : α → D × Bool) (g : α → D) (hd : depE Γ dp)
    (h : ∀ a ∈ l, LcIt tg tt te vs Γ (src a) (some (g a, true))) (k : K (l.map g) true Γ) (hi : its = l.map src := by rfl) : lcGo tg tt te vs dp its [] true Γ K := by
  refine lc_filS l src (fun _ => true) g hd (fun a ha => by rw [if_pos rfl]; exact h a ha) ?_ hi
  rw [List.filter_eq_self.mpr fun _ _ => rfl]
  exact k
theorem dep0 {Γ : En} : depE Γ [] := fun _ h => by cases h

/-! ### stuck tests -/
theorem bT {c : Bool} {A B : Prop} (h : c = true) (k : A) : ifB c A B := by
  subst h
  exact k
theorem bF {c : Bool} {A B : Prop} (h : c = false) (k : B) : ifB c A B := by
  subst h
  exact k
theorem bB {c : Bool} {A B : Prop} (h1 : c = true → A) (h2 : c = false → B) : ifB c A B := by
  cases c with
  | true => exact h1 rfl
  | false => exact h2 rfl
theorem dT {c : Bool} {A B : Prop} (h : c = true) (k : A) : ifD (.bl c) A B := by
  subst h
  exact k
theorem dF {c : Bool} {A B : Prop} (h : c = false) (k : B) : ifD (.bl c) A B := by
  subst h
  exact k
theorem dB {c : Bool} {A B : Prop} (h1 : c = true → A) (h2 : c = false → B) : ifD (.bl c) A B := by
  cases c with
  | true => exact h1 rfl
  | false => exact h2 rfl
theorem nT {c : Bool} (h : c = true) : (!c) = false := by rw [h]; rfl
theorem nF {c : Bool} (h : c = false) : (!c) = true := by rw [h]; rfl
theorem yT {p : Prop} [Decidable p] (h : p) : decide p = true := decide_eq_true h
theorem yF {p : Prop} [Decidable p] (h : ¬ p) : decide p = false := decide_eq_false h
theorem size_ok {n : Nat} (h : n ≤ 1000000) : n ≤ sizeLine := by
  rw [sizeLine_eq]
  omega
theorem size_lt {n : Nat} (h : n ≤ 1000000) : n < sizeLine := by
  rw [sizeLine_eq]
  omega
/-! ### walks -/
theorem for_pre {α : Type} {tg : WG} {body : WS} {P : DE} {its : List (D × Bool)} {Γ : En} (l : List α) (src : α → D × Bool) (I : List α → En → Prop) (h0 : I [] Γ)
    (hs : ∀ pre a r Γ (N : En → Prop), l = pre ++ a :: r → I pre Γ → (∀ Γ', I (pre ++ [a]) Γ' → N Γ') → tg (src a).1 (src a).2 Γ fun Γ1 => body { P with nx := N, ct := N, bk := P.nx } Γ1)
    (he : ∀ Γ, I l Γ → P.nx Γ) (hi : its = l.map src := by rfl) : forGo tg body P its Γ := by
  subst hi
  have main : ∀ (r pre : List α) (Γ : En), l = pre ++ r → I pre Γ → forGo tg body P (r.map src) Γ := by
    intro r
    induction r with
    | nil =>
      intro pre Γ e h
      rw [List.append_nil] at e
      subst e
      exact he Γ h
    | cons a r ih =>
      intro pre Γ e h
      exact hs pre a r Γ _ e h fun Γ' h' => ih (pre ++ [a]) Γ' (by rw [e, List.append_assoc]; rfl) h'
  exact main l [] Γ rfl h0

/-! ### dicts -/
section
variable {κ : Type} [DecidableEq κ]
theorem lookD_nil (k : κ) : lookD ([] : List (κ × D)) k = none := rfl
theorem lookD_cons (p : κ × D) (r : List (κ × D)) (k : κ) : lookD (p :: r) k = if p.1 = k then some p.2 else lookD r k := by
  by_cases e : p.1 = k
  · simp [lookD, List.find?_cons, e]
  · simp [lookD, List.find?_cons, e]
theorem lookD_app (l : List (κ × D)) (k j : κ) (d : D) : lookD (l ++ [(k, d)]) j = match lookD l j with
    | some x => some x
    | none => if k = j then some d else none := by
  induction l with
  | nil => rw [List.nil_append, lookD_cons, lookD_nil]
  | cons p l ih =>
    rw [List.cons_append, lookD_cons, lookD_cons, ih]
    by_cases e : p.1 = j
    · rw [if_pos e, if_pos e]
    · rw [if_neg e, if_neg e]
theorem any_look (l : List (κ × D)) (k : κ) : (l.any fun kv => decide (kv.1 = k)) = (lookD l k).isSome := by
  induction l with
  | nil => rfl
  | cons p l ih =>
    rw [List.any_cons, lookD_cons, ih]
    by_cases e : p.1 = k
    · simp [e]
    · simp [e]
theorem lookD_map (l : List (κ × D)) (k j : κ) (d : D) : lookD (l.map fun kv => if kv.1 = k then (kv.1, d) else kv) j = if (lookD l j).isSome = true then (if j = k then some d else lookD l j) else none := by
  induction l with
  | nil => rfl
  | cons p l ih =>
    rw [List.map_cons, lookD_cons p]
    by_cases e : p.1 = k
    · rw [if_pos e, lookD_cons, ih]
      show (if p.1 = j then some d else _) = _
      by_cases e2 : p.1 = j
      · have e3 : j = k := e2.symm.trans e
        rw [if_pos e2, if_pos e2, if_pos e3]
        rfl
      · rw [if_neg e2, if_neg e2]
    · rw [if_neg e, lookD_cons, ih]
      by_cases e2 : p.1 = j
      · have e3 : ¬ j = k := fun z => e (e2.trans z)
        rw [if_pos e2, if_pos e2, if_neg e3]
        rfl
      · rw [if_neg e2, if_neg e2]
theorem lookD_put (l : List (κ × D)) (k j : κ) (d : D) : lookD (putD l k d) j = if j = k then some d else lookD l j := by
  unfold putD
  rw [any_look]
  cases h : lookD l k with
  | none =>
    rw [if_neg (by simp), lookD_app]
    by_cases e : j = k
    · subst e
      rw [h, if_pos rfl]
    · have e' : ¬ k = j := fun z => e z.symm
      rw [if_neg e, if_neg e']
      cases q : lookD l j <;> rfl
  | some x =>
    rw [if_pos (by simp), lookD_map]
    by_cases e : j = k
    · subst e
      simp [h]
    · rw [if_neg e]
      cases h2 : lookD l j <;> simp [h2, e]
end
/-- dict comprehensions whose turns leave the slots as they were: the last value at each key -/
def DcIt (tg : WG) (tt : WT) (tk te : WE) (vs : List Nat) (Γ : En) (x : D × Bool) (k : Key) (d : D) : Prop :=
  ∀ (KT : Key → D → Bool → En → Prop) (KF : En → Prop), (∀ Γ', rs Γ Γ' vs = Γ → KT k d true Γ') → tg x.1 x.2 (wp Γ vs) fun Γ1 => tt ex0 Γ1 fun b Γ2 => ifB b (tk ex0 Γ2 fun y _ Γ3 => te ex0 Γ3 fun d fr Γ4 => (match keyOf y with
      | some k => KT k d fr Γ4
      | none => False)) (KF Γ2)
theorem dc_map {α : Type} {tg : WG} {tt : WT} {tk te : WE} {vs : List Nat} {dp : Dep} {Γ : En} {K : List (Key × D) → Bool → En → Prop} {its : List (D × Bool)} (l : List α) (src : α → D × Bool) (gk : α → Key) (gd : α → D) (hd : depE Γ dp)
    (h : ∀ a ∈ l, DcIt tg tt tk te vs Γ (src a) (gk a) (gd a)) (k : K (l.foldl (fun acc a => putD acc (gk a) (gd a)) []) true Γ) (hi : its = l.map src := by rfl) : dcGo tg tt tk te vs dp its [] true Γ K := by
  subst hi
  have main : ∀ (l : List α) (acc : List (Key × D)), (∀ a ∈ l, DcIt tg tt tk te vs Γ (src a) (gk a) (gd a)) → K (l.foldl (fun acc a => putD acc (gk a) (gd a)) acc) true Γ → dcGo tg tt tk te vs dp (l.map src) acc true Γ K := by
    intro l
    induction l with
    | nil => exact fun acc _ k => ⟨hd, k⟩
    | cons a l ih =>
      intro acc h k
      refine ⟨hd, ?_⟩
      refine h a List.mem_cons_self (fun ky d fr Γ4 => dcGo tg tt tk te vs dp (l.map src) (putD acc ky d) (true && fr) (rs Γ Γ4 vs) K) (fun Γ2 => dcGo tg tt tk te vs dp (l.map src) acc true (rs Γ Γ2 vs) K) fun Γ' e => ?_
      show dcGo tg tt tk te vs dp (l.map src) (putD acc (gk a) (gd a)) (true && true) (rs Γ Γ' vs) K
      rw [e]
      exact ih _ (fun y hy => h y (List.mem_cons_of_mem _ hy)) k
  exact main l [] h k
theorem fold_look {α : Type} (gk : α → Key) (gd : α → D) (j : Key) : ∀ (l : List α) (acc : List (Key × D)), (lookD (l.foldl (fun acc a => putD acc (gk a) (gd a)) acc) j).isSome = true ↔ (lookD acc j).isSome = true ∨ j ∈ l.map gk
  | [], acc => by simp
  | a :: l, acc => by
    rw [List.foldl_cons, fold_look gk gd j l, lookD_put]
    by_cases e : j = gk a
    · simp [e]
    · simp [e]
theorem enum_map {α : Type} (l : List α) (g : α → D) (fr : Bool) : enumD (l.map g) fr = l.zipIdx.map fun q => (.tup [.int (q.2 : Int), g q.1], fr) := by
  unfold enumD
  rw [List.zipIdx_map, List.map_map]
  rfl
theorem at0 {α : Type} (x : α) (r : List α) : atI (x :: r) 0 = some x := by
  unfold atI ixN
  rw [if_pos (by omega), if_pos (by simp <;> omega)]
  rfl
theorem at1 {α : Type} (x y : α) (r : List α) : atI (x :: y :: r) 1 = some y := by
  unfold atI ixN
  rw [if_pos (by omega), if_pos (by simp <;> omega)]
  rfl
end Q

/-! Q, part 2: nets, and what the defs of k01 promise. -/
namespace Q
open PySem L2 Y

/-! ### nets -/
abbrev Ar := List (Int × Int)
def pts (n : Int) : List Int := (List.range n.toNat).map fun (i : Nat) => 1 + (i : Int)
/-- the two ends of an arrow, the lesser first -/
def ends2 (p : Int × Int) : Int × Int := (min p.1 p.2, max p.1 p.2)
def inR (n : Int) (p : Int × Int) : Prop := (1 ≤ p.1 ∧ p.1 ≤ n) ∧ (1 ≤ p.2 ∧ p.2 ≤ n) ∧ p.1 ≠ p.2
inductive Rch (l : Ar) : Int → Int → Prop
  | refl (a : Int) : Rch l a a
  | step {a b c : Int} : Rch l a b → ((b, c) ∈ l ∨ (c, b) ∈ l) → Rch l a c
/-- what check_both lets pass -/
structure Ok (n : Int) (l : Ar) : Prop where
  n1 : 1 ≤ n
  n12 : n ≤ 12
  len : l.length ≤ 30
  rng : ∀ p ∈ l, inR n p
  dst : l.Pairwise fun p q => ends2 p ≠ ends2 q
  con : ∀ k, 1 ≤ k → k ≤ n → Rch l 1 k
def mayI (n : Int) (l : Ar) : List Int := (pts n).filter fun k => decide (k ∉ l.map (·.1))
def trn (l : Ar) (p : Int) : Ar := l.map fun a => if a.2 = p then (a.2, a.1) else a
/-- the rows that in_order sorts -/
def t4 (p : Int × Int) : D := .tup [.int (min p.1 p.2), .int (max p.1 p.2), .int p.1, .int p.2]
def srt (l : Ar) : Ar := l.mergeSort fun p q => leD (t4 p) (t4 q)
/-- points that lead to none of left -/
def endsOf (l : Ar) (left : List Int) : List Int := left.filter fun k => decide (l.filter (fun a => decide (a.1 = k ∧ a.2 ∈ left)) = [])
def brdF (l : Ar) : Nat → List Int → List Int
  | 0, left => left
  | m + 1, left => if endsOf l left = [] then left else brdF l m (left.filter fun k => decide (k ∉ endsOf l left))
def brd (n : Int) (l : Ar) : List Int := brdF l n.toNat (pts n)
/-- turns, one behind another -/
def ply (l : Ar) (ts : List Int) : Ar := ts.foldl trn l
def legal (n : Int) : Ar → List Int → Prop
  | _, [] => True
  | l, t :: ts => t ∈ mayI n l ∧ legal n (trn l t) ts

/-! ### promises: the program -/
def isWh : D → Bool
  | .int _ => true
  | _ => false
def fs_is_whole : FS := fun ds Q _ => ∃ d t, ds = [d] ∧ tyD d = some t ∧ Q (.bl (isWh d)) true
def fs_check_number : FS := fun ds Q _ => ∃ n a b : Int, ds = [.int n, .int a, .int b] ∧ a ≤ n ∧ n ≤ b ∧ Q .non true
def fs_check_points : FS := fun ds Q _ => ∃ n : Int, ds = [.int n] ∧ 1 ≤ n ∧ n ≤ 12 ∧ Q .non true
def fs_is_pair : FS := fun ds Q _ => ∃ (p : Int × Int) (n : Int), ds = [prD p, .int n] ∧ inR n p ∧ Q (.bl true) true
def fs_wrong_pair : FS := fun ds Q _ => ∃ (l : Ar) (n : Int), ds = [arD l, .int n] ∧ l.length ≤ 30 ∧ (∀ p ∈ l, inR n p) ∧ (l.Pairwise fun p q => ends2 p ≠ ends2 q) ∧ Q .non true
def fs_reached_in : FS := fun ds Q _ => ∃ (n : Int) (l : Ar), ds = [.int n, arD l] ∧ 1 ≤ n ∧ n ≤ 12 ∧ (∀ p ∈ l, inR n p) ∧ ∀ kvs fr, (∀ k : Int, (lookD kvs (.inl k)).isSome = true ↔ Rch l 1 k) → Q (.dk kvs) fr
def fs_check_hanging : FS := fun ds Q _ => ∃ (n : Int) (l : Ar), ds = [.int n, arD l] ∧ 1 ≤ n ∧ n ≤ 12 ∧ (∀ p ∈ l, inR n p) ∧ (∀ k, 1 ≤ k → k ≤ n → Rch l 1 k) ∧ Q .non true
def fs_check_arrows : FS := fun ds Q _ => ∃ (n : Int) (l : Ar), ds = [arD l, .int n] ∧ Ok n l ∧ Q .non true
def fs_check_both : FS := fun ds Q _ => ∃ (n : Int) (l : Ar), ds = [.int n, arD l] ∧ Ok n l ∧ Q .non true
def fs_check_point : FS := fun ds Q _ => ∃ p n : Int, ds = [.int p, .int n] ∧ 1 ≤ p ∧ p ≤ n ∧ Q .non true
def fs_check_turns : FS := fun ds Q _ => ∃ (ts : List Int) (n : Int), ds = [inD ts, .int n] ∧ (∀ t ∈ ts, 1 ≤ t ∧ t ≤ n) ∧ Q .non true
def fs_in_order : FS := fun ds Q _ => ∃ l : Ar, ds = [arD l] ∧ l.length ≤ 100 ∧ Q (arD (srt l)) true
def fs_may_in : FS := fun ds Q _ => ∃ (n : Int) (l : Ar), ds = [.int n, arD l] ∧ n ≤ 100 ∧ 0 ≤ n ∧ l.length ≤ 100 ∧ Q (inD (mayI n l)) true
def fs_turned_in : FS := fun ds Q _ => ∃ (l : Ar) (p : Int), ds = [arD l, .int p] ∧ l.length ≤ 100 ∧ Q (arD (trn l p)) true
def fs_barred_in : FS := fun ds Q _ => ∃ (n : Int) (l : Ar), ds = [.int n, arD l] ∧ n ≤ 100 ∧ 0 ≤ n ∧ l.length ≤ 100 ∧ Q (inD (brd n l)) true
def fs_may_turn : FS := fun ds Q _ => ∃ (n : Int) (l : Ar), ds = [.int n, arD l] ∧ Ok n l ∧ Q (inD (mayI n l)) true
def fs_turn : FS := fun ds Q _ => ∃ (n : Int) (l : Ar) (p : Int), ds = [.int n, arD l, .int p] ∧ Ok n l ∧ p ∈ mayI n l ∧ Q (arD (srt (trn l p))) true
def fs_after_in : FS := fun ds Q _ => ∃ (n : Int) (l : Ar) (ts : List Int), ds = [.int n, arD l, inD ts] ∧ n ≤ 100 ∧ 0 ≤ n ∧ l.length ≤ 100 ∧ legal n l ts ∧ ∀ fr, Q (.tup [arD (ply l ts), .non]) fr
def fs_after_turns : FS := fun ds Q _ => ∃ (n : Int) (l : Ar) (ts : List Int), ds = [.int n, arD l, inD ts] ∧ Ok n l ∧ legal n l ts ∧ Q (arD (srt (ply l ts))) true
def fs_barred : FS := fun ds Q _ => ∃ (n : Int) (l : Ar), ds = [.int n, arD l] ∧ Ok n l ∧ Q (inD (brd n l)) true

/-! ### promises: the law -/
/-- a draws list, k draws behind its start at most -/
def Dr (k : Nat) (os : List D) : Prop := ∃ (a b : Int) (c : Bool), os = [.int a, .int b, .bl c] ∧ 0 ≤ a ∧ a < 10 ^ 14400 ∧ 0 ≤ b ∧ b ≤ k
def fs__law_draws : FS := fun ds Q _ => ∃ c : Int, ds = [.int c] ∧ ∀ os, Dr 0 os → Q (.lst os) true
def fs__law_next : FSM := fun os ds Q => ∃ k : Nat, ds = [] ∧ Dr k os ∧ k ≤ 1000000000 ∧ ∀ os' (v : Int), Dr (k + 1) os' → Q os' (.int v) true
def fs__law_shuffled : FSM := fun os ds Q => ∃ (k : Nat) (xs : List D), ds = [.lst xs] ∧ Dr k os ∧ xs.length ≤ 100 ∧ k + xs.length ≤ 1000000000 ∧ plainAll xs = true ∧ dep (.lst xs) ≤ 60 ∧ ∀ os' ys fr, Dr (k + xs.length) os' → ys.Perm xs → Q os' (.lst ys) fr
/-- a net's bars: in range, distinct, all reached, at most 30 -/
structure Bars (n : Int) (l : Ar) : Prop where
  len : l.length ≤ 30
  rng : ∀ p ∈ l, inR n p
  dst : l.Pairwise fun p q => ends2 p ≠ ends2 q
  con : ∀ k, 1 ≤ k → k ≤ n → Rch l 1 k
def fs__law_bars : FSM := fun os ds Q => ∃ (k : Nat) (n m : Int), ds = [.int n, .int m] ∧ 1 ≤ n ∧ n ≤ 12 ∧ 1 ≤ m ∧ m ≤ 100 ∧ Dr k os ∧ k ≤ 1000000 ∧ ∀ os' l fr, Dr (k + 1000) os' → Bars n l → Q os' (arD l) fr
def fs__law_sides : FSM := fun os ds Q => ∃ (k : Nat) (n : Int) (l : Ar), ds = [.int n, arD l] ∧ 1 ≤ n ∧ n ≤ 12 ∧ Bars n l ∧ Dr k os ∧ k ≤ 1000000 ∧ ∀ os' l' fr, Dr (k + 1000) os' → Ok n l' → Q os' (arD l') fr
def fs__law_may : FS := fun ds Q _ => ∃ (n : Int) (l : Ar), ds = [.int n, arD l] ∧ n ≤ 100 ∧ 0 ≤ n ∧ l.length ≤ 100 ∧ Q (inD (mayI n l)) true
def fs__law_turned : FS := fun ds Q _ => ∃ (l : Ar) (p : Int), ds = [arD l, .int p] ∧ l.length ≤ 100 ∧ Q (arD (trn l p)) true
def fs__law_in_order : FS := fun ds Q _ => ∃ l : Ar, ds = [arD l] ∧ l.length ≤ 100 ∧ ∀ fr, Q (arD (srt l)) fr
/-- one or more steps along arrows -/
inductive Onw (l : Ar) : Int → Int → Prop
  | one {a b : Int} : (a, b) ∈ l → Onw l a b
  | more {a b c : Int} : Onw l a b → (b, c) ∈ l → Onw l a c
def fs__law_onward : FS := fun ds Q _ => ∃ (n : Int) (l : Ar) (k : Int), ds = [.int n, arD l, .int k] ∧ 0 ≤ n ∧ n ≤ 12 ∧ l.length ≤ 30 ∧ (∀ p ∈ l, inR n p) ∧ ∀ ms : List Int, ms.length ≤ 100 → (∀ j, j ∈ ms ↔ Onw l k j) → Q (inD ms) true
def fs__law_barred : FS := fun ds Q _ => ∃ (n : Int) (l : Ar), ds = [.int n, arD l] ∧ 0 ≤ n ∧ n ≤ 12 ∧ l.length ≤ 30 ∧ (∀ p ∈ l, inR n p) ∧ Q (inD (brd n l)) true
def fs__law_played : FSM := fun os ds Q => ∃ (k : Nat) (n : Int) (l : Ar) (m : Int), ds = [.int n, arD l, .int m] ∧ 0 ≤ n ∧ n ≤ 12 ∧ l.length ≤ 30 ∧ 0 ≤ m ∧ m ≤ 60 ∧ Dr k os ∧ k ≤ 10000000 ∧ ∀ os' ts fr, Dr (k + 1000) os' → ts.length ≤ 60 → legal n l ts → Q os' (.tup [inD ts, arD (ply l ts)]) fr
def fs__law_right : FSM := fun os ds Q => ∃ (k : Nat) (n : Int) (l : Ar), ds = [.int n, arD l] ∧ Ok n l ∧ Dr k os ∧ k ≤ 1000000 ∧ ∀ os', Dr (k + 1000) os' → Q os' (.bl true) true
def fs__law_run_right : FSM := fun os ds Q => ∃ (k : Nat) (n : Int) (l : Ar), ds = [.int n, arD l] ∧ Ok n l ∧ Dr k os ∧ k ≤ 1000000 ∧ ∀ os', Dr (k + 2000) os' → Q os' (.bl true) true
end Q

/-! Q, part 3: the wps of the defs of k01 (printed by gen.py). -/
namespace Q
open PySem L2 Y
@[reducible] def w_is_whole : WS := wRet (wAndV (wIsi "int" (wLook 0)) (wNotV (wIsi "bool" (wLook 0))))
@[reducible] def w_check_number : WS := wIfS (wOr (wNot (wTst (wCall fs_is_whole (wCons (wVar 0) (wNil))))) (wNot (wTst (wChain (kI0 fun i j => .bl (decide (i ≤ j))) (kI0 fun i j => .bl (decide (i ≤ j))) (wVar 1) (wVar 0) (wVar 2))))) (wNever) (wNext)
@[reducible] def w_check_points : WS := wDrop (wCall fs_check_number (wCons (wVar 0) (wCons (wC (.int 1)) (wCons (wC (.int 12)) (wNil)))))
@[reducible] def w_is_pair : WS := wSeq (wIfS (wOr (wNot (wTst (wIsi "list" (wLook 0)))) (wTst (wOp kNe (wC1 kLen (wLook 0)) (wC (.int 2))))) (wRet (wC (.bl false))) (wNext)) (wRet (wAndV (wC1 kAll (wVal (wLc (wItL (wLook 0)) (wName 2) (wYes) (wAndV (wCall fs_is_whole (wCons (wVar 2) (wNil))) (wChain (kI0 fun i j => .bl (decide (i ≤ j))) (kI0 fun i j => .bl (decide (i ≤ j))) (wC (.int 1)) (wVar 2) (wVar 1))) [2]))) (wOp kNe (wIx kIx (wLook 0) (wC (.int 0))) (wIx kIx (wLook 0) (wC (.int 1))))))
@[reducible] def w_wrong_pair : WS := wSeq (wSetO 2 (wDt)) (wSeq (wFor (wItE (wLook 0)) (wTgt (wgCons (wName 3) (wgCons (wName 4) (wgNil)))) (wSeq (wIfS (wOr (wNot (wTst (wCall fs_is_pair (wCons (wVar 4) (wCons (wVar 1) (wNil)))))) (wTst (wIn (wTup (wCons (wC1 kMin (wLook 4)) (wCons (wC1 kMax (wLook 4)) (wNil)))) (wLook 2)))) (wRet (wVar 3)) (wNext)) (wPut 2 (wTup (wCons (wC1 kMin (wLook 4)) (wCons (wC1 kMax (wLook 4)) (wNil)))) (wC (.bl true))))) (wRet (wC .non)))
@[reducible] def w_reached_in : WS := wSeq (wPar 2 3 (wOwn (wDisp1 (wC (.int 1)) (wC (.bl true)))) (wOwn (wLst (wCons (wC (.int 1)) (wNil))))) (wSeq (wWhile (wTst (wCmpV kNe (wLook 3) (wLst (wNil)))) (wSeq (wSet 4 (wPop 3)) (wFor (wItL (wLook 1)) (wTgt (wgCons (wName 5) (wgCons (wName 6) (wgNil)))) (wFor (wItL (wVal (wIf (wTst (wOp kEq (wVar 5) (wVar 4))) (wLst (wCons (wVar 6) (wNil))) (wIf (wTst (wOp kEq (wVar 6) (wVar 4))) (wLst (wCons (wVar 5) (wNil))) (wLst (wNil)))))) (wName 7) (wIfS (wTst (wNotIn (wVar 7) (wLook 2))) (wSeq (wPut 2 (wVar 7) (wC (.bl true))) (wDrop (wApp 3 (wVar 7)))) (wNext)))))) (wRet (wVar 2)))
@[reducible] def w_check_hanging : WS := wSeq (wSet 2 (wCall fs_reached_in (wCons (wVar 0) (wCons (wVar 1) (wNil))))) (wSeq (wSet 3 (wLc (wItR2 (wC (.int 1)) (wOp kAdd (wVar 0) (wC (.int 1)))) (wName 4) (wTst (wNotIn (wVar 4) (wLook 2))) (wVar 4) [4])) (wIfS (wTst (wOp kNe (wVar 3) (wLst (wNil)))) (wNever) (wNext)))
@[reducible] def w_check_arrows : WS := wSeq (wIfS (wOr (wNot (wTst (wIsi "list" (wLook 0)))) (wTst (wOp (kI0 fun i j => .bl (decide (j < i))) (wC1 kLen (wLook 0)) (wC (.int 30))))) (wNever) (wNext)) (wSeq (wSet 2 (wCall fs_wrong_pair (wCons (wVar 0) (wCons (wVar 1) (wNil))))) (wSeq (wIfS (wTst (wOp kNotN (wVar 2) (wC .non))) (wNever) (wNext)) (wDrop (wCall fs_check_hanging (wCons (wVar 1) (wCons (wVar 0) (wNil)))))))
@[reducible] def w_check_both : WS := wSeq (wDrop (wCall fs_check_points (wCons (wVar 0) (wNil)))) (wDrop (wCall fs_check_arrows (wCons (wVar 1) (wCons (wVar 0) (wNil)))))
@[reducible] def w_check_point : WS := wIfS (wOr (wNot (wTst (wCall fs_is_whole (wCons (wVar 0) (wNil))))) (wNot (wTst (wChain (kI0 fun i j => .bl (decide (i ≤ j))) (kI0 fun i j => .bl (decide (i ≤ j))) (wC (.int 1)) (wVar 0) (wVar 1))))) (wNever) (wNext)
@[reducible] def w_check_turns : WS := wSeq (wIfS (wNot (wTst (wIsi "list" (wLook 0)))) (wNever) (wNext)) (wFor (wItE (wLook 0)) (wTgt (wgCons (wName 2) (wgCons (wName 3) (wgNil)))) (wIfS (wOr (wNot (wTst (wCall fs_is_whole (wCons (wVar 3) (wNil))))) (wNot (wTst (wChain (kI0 fun i j => .bl (decide (i ≤ j))) (kI0 fun i j => .bl (decide (i ≤ j))) (wC (.int 1)) (wVar 3) (wVar 1))))) (wNever) (wNext)))
@[reducible] def w_in_order : WS := wRet (wLc (wItL (wVal (wC1 kSorted (wVal (wLc (wItL (wLook 0)) (wName 5) (wYes) (wTup (wCons (wC1 kMin (wLook 5)) (wCons (wC1 kMax (wLook 5)) (wCons (wIx kIx (wLook 5) (wC (.int 0))) (wCons (wIx kIx (wLook 5) (wC (.int 1))) (wNil)))))) [5]))))) (wTgt (wgCons (wName 1) (wgCons (wName 2) (wgCons (wName 3) (wgCons (wName 4) (wgNil)))))) (wYes) (wLst (wCons (wVar 3) (wCons (wVar 4) (wNil)))) [1, 2, 3, 4])
@[reducible] def w_may_in : WS := wSeq (wSet 2 (wDc (wItL (wLook 1)) (wTgt (wgCons (wName 3) (wgCons (wName 4) (wgNil)))) (wYes) (wVar 3) (wC (.bl true)) [3, 4])) (wRet (wLc (wItR2 (wC (.int 1)) (wOp kAdd (wVar 0) (wC (.int 1)))) (wName 5) (wTst (wNotIn (wVar 5) (wLook 2))) (wVar 5) [5]))
@[reducible] def w_turned_in : WS := wRet (wLc (wItL (wLook 0)) (wTgt (wgCons (wName 2) (wgCons (wName 3) (wgNil)))) (wYes) (wIf (wTst (wOp kEq (wVar 3) (wVar 1))) (wLst (wCons (wVar 3) (wCons (wVar 2) (wNil)))) (wLst (wCons (wVar 2) (wCons (wVar 3) (wNil))))) [2, 3])
@[reducible] def w_barred_in : WS := wSeq (wSet 2 (wLR2 (wC (.int 1)) (wOp kAdd (wVar 0) (wC (.int 1))))) (wSeq (wSet 3 (wLc (wItL (wLook 2)) (wName 4) (wTst (wOp kEq (wLc (wItL (wLook 1)) (wTgt (wgCons (wName 5) (wgCons (wName 6) (wgNil)))) (wAnd (wTst (wOp kEq (wVar 5) (wVar 4))) (wTst (wIn (wVar 6) (wLook 2)))) (wVar 6) [5, 6]) (wLst (wNil)))) (wVar 4) [4])) (wSeq (wWhile (wTst (wOp kNe (wVar 3) (wLst (wNil)))) (wSeq (wSet 2 (wLc (wItL (wLook 2)) (wName 4) (wTst (wNotIn (wVar 4) (wLook 3))) (wVar 4) [4])) (wSet 3 (wLc (wItL (wLook 2)) (wName 4) (wTst (wOp kEq (wLc (wItL (wLook 1)) (wTgt (wgCons (wName 5) (wgCons (wName 6) (wgNil)))) (wAnd (wTst (wOp kEq (wVar 5) (wVar 4))) (wTst (wIn (wVar 6) (wLook 2)))) (wVar 6) [5, 6]) (wLst (wNil)))) (wVar 4) [4])))) (wRet (wVar 2))))
@[reducible] def w_may_turn : WS := wSeq (wDrop (wCall fs_check_both (wCons (wVar 0) (wCons (wVar 1) (wNil))))) (wRet (wCall fs_may_in (wCons (wVar 0) (wCons (wVar 1) (wNil)))))
@[reducible] def w_turn : WS := wSeq (wDrop (wCall fs_check_both (wCons (wVar 0) (wCons (wVar 1) (wNil))))) (wSeq (wDrop (wCall fs_check_point (wCons (wVar 2) (wCons (wVar 0) (wNil))))) (wSeq (wIfS (wTst (wNotIn (wVar 2) (wVal (wCall fs_may_in (wCons (wVar 0) (wCons (wVar 1) (wNil))))))) (wNever) (wNext)) (wRet (wCall fs_in_order (wCons (wCall fs_turned_in (wCons (wVar 1) (wCons (wVar 2) (wNil)))) (wNil))))))
@[reducible] def w_after_in : WS := wSeq (wFor (wItE (wLook 2)) (wTgt (wgCons (wName 3) (wgCons (wName 4) (wgNil)))) (wSeq (wIfS (wTst (wNotIn (wVar 4) (wVal (wCall fs_may_in (wCons (wVar 0) (wCons (wVar 1) (wNil))))))) (wRet (wTup (wCons (wVar 1) (wCons (wVar 3) (wNil))))) (wNext)) (wSet 1 (wCall fs_turned_in (wCons (wVar 1) (wCons (wVar 4) (wNil))))))) (wRet (wTup (wCons (wVar 1) (wCons (wC .non) (wNil)))))
@[reducible] def w_after_turns : WS := wSeq (wDrop (wCall fs_check_both (wCons (wVar 0) (wCons (wVar 1) (wNil))))) (wSeq (wDrop (wCall fs_check_turns (wCons (wVar 2) (wCons (wVar 0) (wNil))))) (wSeq (wAsg (wCall fs_after_in (wCons (wVar 0) (wCons (wVar 1) (wCons (wVar 2) (wNil))))) (wTgt (wgCons (wName 3) (wgCons (wName 4) (wgNil))))) (wSeq (wIfS (wTst (wOp kNotN (wVar 4) (wC .non))) (wNever) (wNext)) (wRet (wCall fs_in_order (wCons (wVar 3) (wNil)))))))
@[reducible] def w_barred : WS := wSeq (wDrop (wCall fs_check_both (wCons (wVar 0) (wCons (wVar 1) (wNil))))) (wRet (wCall fs_barred_in (wCons (wVar 0) (wCons (wVar 1) (wNil)))))
@[reducible] def w__law_draws : WS := wRet (wLst (wCons (wOp (kI (fun _ j => 0 < j) fun i j => .int (i % j)) (wC1 kInt (wLook 0)) (wOp (kI CPowW fun i j => .int (i ^ j.toNat)) (wOp (kI CPowW fun i j => .int (i ^ j.toNat)) (wOp (kI CPowW fun i j => .int (i ^ j.toNat)) (wC (.int 10)) (wC (.int 60))) (wC (.int 60))) (wC (.int 4)))) (wCons (wC (.int 0)) (wCons (wOp (kI0 fun i j => .bl (decide (j ≤ i))) (wVar 0) (wOp (kI CPowW fun i j => .int (i ^ j.toNat)) (wC (.int 10)) (wC (.int 18)))) (wNil)))))
@[reducible] def w__law_next : WS := wSeq (wPut 0 (wC (.int 1)) (wOp kAdd (wIx kIx (wLook 0) (wC (.int 1))) (wC (.int 1)))) (wSeq (wSet 1 (wIx kIx (wLook 0) (wC (.int 1)))) (wSeq (wIfS (wTst (wIx kIx (wLook 0) (wC (.int 2)))) (wSeq (wSet 2 (wOp (kI (fun _ j => 0 < j) fun i j => .int (i % j)) (wC1 kInt (wVal (wIx kIx (wLook 0) (wC (.int 0))))) (wOp (kI CPowW fun i j => .int (i ^ j.toNat)) (wC (.int 10)) (wC (.int 6))))) (wSeq (wPut 0 (wC (.int 0)) (wOp (kI CDivW fun i j => .int (i / j)) (wIx kIx (wLook 0) (wC (.int 0))) (wOp (kI CPowW fun i j => .int (i ^ j.toNat)) (wC (.int 10)) (wC (.int 6))))) (wRet (wVar 2)))) (wNext)) (wSeq (wSet 2 (wOp (kI (fun _ j => 0 < j) fun i j => .int (i % j)) (wC1 kInt (wVal (wOp kMul (wOp kAdd (wOp kAdd (wOp (kI (fun _ j => 0 < j) fun i j => .int (i % j)) (wC1 kInt (wVal (wIx kIx (wLook 0) (wC (.int 0))))) (wC (.int 1000003))) (wOp kMul (wOp kMul (wVar 1) (wVar 1)) (wC (.int 7919)))) (wVar 1)) (wC (.int 48271))))) (wC (.int 2147483629)))) (wSeq (wSet 2 (wOp (kI (fun _ j => 0 < j) fun i j => .int (i % j)) (wC1 kInt (wVal (wOp kMul (wVar 2) (wVar 2)))) (wC (.int 2147483587)))) (wRet (wOp (kI CDivW fun i j => .int (i / j)) (wOp (kI (fun _ j => 0 < j) fun i j => .int (i % j)) (wC1 kInt (wVal (wOp kMul (wVar 2) (wOp kAdd (wVar 2) (wC (.int 2)))))) (wC (.int 2147483579))) (wC (.int 7))))))))
@[reducible] def w__law_shuffled : WS := wSeq (wSetO 2 (wC1 kList (wLook 1))) (wSeq (wSetO 3 (wLst (wNil))) (wSeq (wWhile (wTst (wCmpV kNe (wLook 2) (wLst (wNil)))) (wDrop (wApp 3 (wPopAt 2 (wOp (kI (fun _ j => 0 < j) fun i j => .int (i % j)) (wC1 kInt (wVal (wCallM 0 fs__law_next (wNil)))) (wC1 kLen (wLook 2))))))) (wRet (wVar 3))))
@[reducible] def w__law_bars : WS := wSeq (wSet 3 (wCallM 0 fs__law_shuffled (wCons (wLR2 (wC (.int 1)) (wOp kAdd (wVar 1) (wC (.int 1)))) (wNil)))) (wSeq (wSet 4 (wOp (kI (fun _ j => 0 < j) fun i j => .int (i % j)) (wC1 kInt (wVal (wCallM 0 fs__law_next (wNil)))) (wC (.int 4)))) (wSeq (wSetO 5 (wLst (wNil))) (wSeq (wFor (wItR2 (wC (.int 1)) (wVar 1)) (wName 6) (wDrop (wApp 5 (wLst (wCons (wIx kIx (wLook 3) (wVar 6)) (wCons (wIx kIx (wLook 3) (wIx kIx (wVal (wLst (wCons (wOp (kI (fun _ j => 0 < j) fun i j => .int (i % j)) (wC1 kInt (wVal (wCallM 0 fs__law_next (wNil)))) (wVar 6)) (wCons (wOp (kI0 fun i j => .int (i - j)) (wVar 6) (wC (.int 1))) (wCons (wC (.int 0)) (wCons (wOp (kI CDivW fun i j => .int (i / j)) (wOp (kI0 fun i j => .int (i - j)) (wVar 6) (wC (.int 1))) (wC (.int 2))) (wNil))))))) (wVar 4))) (wNil))))))) (wSeq (wFor (wItR1 (wOp (kI (fun _ j => 0 < j) fun i j => .int (i % j)) (wC1 kInt (wVal (wCallM 0 fs__law_next (wNil)))) (wC2 kMin2 (wVar 2) (wIx kIx (wVal (wLst (wCons (wC (.int 1)) (wCons (wC (.int 3)) (wCons (wC (.int 9)) (wCons (wC (.int 33)) (wNil))))))) (wOp (kI (fun _ j => 0 < j) fun i j => .int (i % j)) (wC1 kInt (wVal (wCallM 0 fs__law_next (wNil)))) (wC (.int 4))))))) (wName 7) (wSeq (wPar 8 9 (wDat (wOp kAdd (wC (.int 1)) (wOp (kI (fun _ j => 0 < j) fun i j => .int (i % j)) (wC1 kInt (wVal (wCallM 0 fs__law_next (wNil)))) (wVar 1)))) (wDat (wOp kAdd (wC (.int 1)) (wOp (kI (fun _ j => 0 < j) fun i j => .int (i % j)) (wC1 kInt (wVal (wCallM 0 fs__law_next (wNil)))) (wVar 1))))) (wIfS (wAnd (wTst (wOp kNe (wVar 8) (wVar 9))) (wAnd (wTst (wNotIn (wLst (wCons (wVar 8) (wCons (wVar 9) (wNil)))) (wLook 5))) (wAnd (wTst (wNotIn (wLst (wCons (wVar 9) (wCons (wVar 8) (wNil)))) (wLook 5))) (wTst (wOp (kI0 fun i j => .bl (decide (i < j))) (wC1 kLen (wLook 5)) (wC (.int 30))))))) (wDrop (wApp 5 (wLst (wCons (wVar 8) (wCons (wVar 9) (wNil)))))) (wNext)))) (wRet (wCallM 0 fs__law_shuffled (wCons (wVar 5) (wNil))))))))
@[reducible] def w__law_sides : WS := wSeq (wIfS (wTst (wOp kEq (wOp (kI (fun _ j => 0 < j) fun i j => .int (i % j)) (wC1 kInt (wVal (wCallM 0 fs__law_next (wNil)))) (wC (.int 3))) (wC (.int 0)))) (wRet (wLc (wItL (wLook 2)) (wTgt (wgCons (wName 4) (wgCons (wName 5) (wgNil)))) (wYes) (wSlK (wVal (wLst (wCons (wVar 4) (wCons (wVar 5) (wNil))))) (wIx kIx (wVal (wLst (wCons (wC (.int 1)) (wCons (wNeg (wC (.int 1))) (wNil))))) (wOp (kI (fun _ j => 0 < j) fun i j => .int (i % j)) (wC1 kInt (wVal (wCallM 0 fs__law_next (wNil)))) (wC (.int 2))))) [4, 5])) (wNext)) (wSeq (wSet 3 (wCallM 0 fs__law_shuffled (wCons (wLR1 (wVar 1)) (wNil)))) (wRet (wLc (wItL (wLook 2)) (wTgt (wgCons (wName 4) (wgCons (wName 5) (wgNil)))) (wYes) (wIf (wTst (wOp (kI0 fun i j => .bl (decide (i < j))) (wIx kIx (wLook 3) (wOp (kI0 fun i j => .int (i - j)) (wVar 4) (wC (.int 1)))) (wIx kIx (wLook 3) (wOp (kI0 fun i j => .int (i - j)) (wVar 5) (wC (.int 1)))))) (wLst (wCons (wVar 4) (wCons (wVar 5) (wNil)))) (wLst (wCons (wVar 5) (wCons (wVar 4) (wNil))))) [4, 5])))
@[reducible] def w__law_may : WS := wSeq (wSet 2 (wLc (wItL (wLook 1)) (wTgt (wgCons (wName 3) (wgCons (wName 4) (wgNil)))) (wYes) (wVar 3) [3, 4])) (wRet (wLc (wItR2 (wC (.int 1)) (wOp kAdd (wVar 0) (wC (.int 1)))) (wName 5) (wTst (wNotIn (wVar 5) (wLook 2))) (wVar 5) [5]))
@[reducible] def w__law_turned : WS := wRet (wLc (wItL (wLook 0)) (wTgt (wgCons (wName 2) (wgCons (wName 3) (wgNil)))) (wYes) (wIf (wTst (wOp kEq (wVar 3) (wVar 1))) (wLst (wCons (wVar 3) (wCons (wVar 2) (wNil)))) (wLst (wCons (wVar 2) (wCons (wVar 3) (wNil))))) [2, 3])
@[reducible] def w__law_in_order : WS := wRet (wLc (wItL (wVal (wC1 kSorted (wVal (wLc (wItL (wLook 0)) (wName 1) (wYes) (wTup (wCons (wLst (wCons (wC1 kMin (wLook 1)) (wCons (wC1 kMax (wLook 1)) (wNil)))) (wCons (wVar 1) (wNil)))) [1]))))) (wName 1) (wYes) (wIx kIx (wLook 1) (wC (.int 1))) [1])
@[reducible] def w__law_onward : WS := wSeq (wSet 3 (wLc (wItL (wLook 1)) (wTgt (wgCons (wName 5) (wgCons (wName 6) (wgNil)))) (wTst (wOp kEq (wVar 5) (wVar 2))) (wVar 6) [5, 6])) (wSeq (wFor (wItR1 (wVar 0)) (wName 4) (wSet 3 (wSorSet (wOp kAdd (wVar 3) (wLc (wItL (wLook 1)) (wTgt (wgCons (wName 5) (wgCons (wName 6) (wgNil)))) (wTst (wIn (wVar 5) (wLook 3))) (wVar 6) [5, 6]))))) (wRet (wVar 3)))
@[reducible] def w__law_barred : WS := wSeq (wSet 2 (wLc (wItR2 (wC (.int 1)) (wOp kAdd (wVar 0) (wC (.int 1)))) (wName 4) (wYes) (wCall fs__law_onward (wCons (wVar 0) (wCons (wVar 1) (wCons (wVar 4) (wNil))))) [4])) (wSeq (wSet 3 (wLc (wItR2 (wC (.int 1)) (wOp kAdd (wVar 0) (wC (.int 1)))) (wName 4) (wTst (wIn (wVar 4) (wVal (wIx kIx (wLook 2) (wOp (kI0 fun i j => .int (i - j)) (wVar 4) (wC (.int 1))))))) (wVar 4) [4])) (wRet (wLc (wItR2 (wC (.int 1)) (wOp kAdd (wVar 0) (wC (.int 1)))) (wName 4) (wTst (wOp kNe (wLc (wItL (wLook 3)) (wName 5) (wTst (wIn (wVar 5) (wVal (wIx kIx (wLook 2) (wOp (kI0 fun i j => .int (i - j)) (wVar 4) (wC (.int 1))))))) (wVar 5) [5]) (wLst (wNil)))) (wVar 4) [4])))
@[reducible] def w__law_played : WS := wSeq (wSetO 4 (wLst (wNil))) (wSeq (wFor (wItR1 (wOp (kI (fun _ j => 0 < j) fun i j => .int (i % j)) (wC1 kInt (wVal (wCallM 0 fs__law_next (wNil)))) (wOp kAdd (wVar 3) (wC (.int 1))))) (wName 5) (wSeq (wSet 6 (wCall fs__law_may (wCons (wVar 1) (wCons (wVar 2) (wNil))))) (wIfS (wTst (wOp kNe (wVar 6) (wLst (wNil)))) (wSeq (wDrop (wApp 4 (wIx kIx (wLook 6) (wOp (kI (fun _ j => 0 < j) fun i j => .int (i % j)) (wC1 kInt (wVal (wCallM 0 fs__law_next (wNil)))) (wC1 kLen (wLook 6)))))) (wSet 2 (wCall fs__law_turned (wCons (wVar 2) (wCons (wIx kIx (wLook 4) (wNeg (wC (.int 1)))) (wNil)))))) (wNext)))) (wRet (wTup (wCons (wVar 4) (wCons (wVar 2) (wNil))))))
@[reducible] def w__law_right : WS := wSeq (wSet 3 (wC1 kRepr (wLook 2))) (wSeq (wSet 4 (wLst (wCons (wCall fs__law_may (wCons (wVar 1) (wCons (wVar 2) (wNil)))) (wCons (wCall fs__law_barred (wCons (wVar 1) (wCons (wVar 2) (wNil)))) (wNil))))) (wBlk (wBSeq (wSet 5 (wLst (wCons (wCall fs_may_turn (wCons (wVar 1) (wCons (wVar 2) (wNil)))) (wCons (wCall fs_barred (wCons (wVar 1) (wCons (wVar 2) (wNil)))) (wNil))))) (wBSeq (wSet 6 (wLst (wCons (wCallK [1, 0] fs_may_turn (wCons (wVar 2) (wCons (wVar 1) (wNil)))) (wCons (wCallK [1, 0] fs_barred (wCons (wVar 2) (wCons (wVar 1) (wNil)))) (wNil))))) (wBSeq (wIfS (wOr (wTst (wOp kNe (wC1 kRepr (wVal (wLst (wCons (wVar 5) (wCons (wVar 6) (wNil)))))) (wC1 kRepr (wVal (wLst (wCons (wVar 4) (wCons (wVar 4) (wNil)))))))) (wTst (wOp kNe (wC1 kRepr (wLook 2)) (wVar 3)))) (wRet (wC (.bl false))) (wNext)) (wSp (wSp1 5 0 (wSp1 5 1 (wJEnd (wSeq (wIfS (wTst (wOp kNe (wC1 kRepr (wVal (wLst (wCons (wCall fs_may_turn (wCons (wVar 1) (wCons (wVar 2) (wNil)))) (wCons (wCall fs_barred (wCons (wVar 1) (wCons (wVar 2) (wNil)))) (wNil)))))) (wC1 kRepr (wLook 4)))) (wRet (wC (.bl false))) (wNext)) (wSeq (wIfS (wTst (wOp kNe (wLc (wItL (wLook 2)) (wName 10) (wAnd (wTst (wIn (wIx kIx (wLook 10) (wC (.int 0))) (wVal (wIx kIx (wLook 4) (wC (.int 0)))))) (wTst (wIn (wIx kIx (wLook 10) (wC (.int 1))) (wVal (wIx kIx (wLook 4) (wC (.int 0))))))) (wVar 10) [10]) (wLst (wNil)))) (wRet (wC (.bl false))) (wNext)) (wSeq (wSet 7 (wCallM 0 fs__law_shuffled (wCons (wVar 2) (wNil)))) (wSeq (wFor (wItL (wVal (wIx kIx (wLook 4) (wC (.int 0))))) (wName 8) (wSeq (wSet 9 (wCall fs__law_in_order (wCons (wCall fs__law_turned (wCons (wVar 2) (wCons (wVar 8) (wNil)))) (wNil)))) (wBlk (wBSeq (wSet 5 (wLst (wCons (wCall fs_turn (wCons (wVar 1) (wCons (wVar 2) (wCons (wVar 8) (wNil))))) (wCons (wCallK [2, 1, 0] fs_turn (wCons (wVar 8) (wCons (wVar 7) (wCons (wVar 1) (wNil))))) (wNil))))) (wBSeq (wIfS (wOr (wTst (wOp kNe (wC1 kRepr (wLook 5)) (wC1 kRepr (wVal (wLst (wCons (wVar 9) (wCons (wVar 9) (wNil)))))))) (wTst (wOp kNe (wC1 kRepr (wLook 2)) (wVar 3)))) (wRet (wC (.bl false))) (wNext)) (wSp (wSp2 5 0 10 (wSp1 5 0 (wJEnd (wIfS (wTst (wOp kNe (wC1 kRepr (wVal (wCall fs_turn (wCons (wVar 1) (wCons (wVar 2) (wCons (wVar 8) (wNil))))))) (wC1 kRepr (wLook 9)))) (wRet (wC (.bl false))) (wNext))))))))))) (wRet (wC (.bl true))))))))))))))))
@[reducible] def w__law_run_right : WS := wSeq (wSet 3 (wC1 kRepr (wLook 2))) (wSeq (wSet 4 (wCall fs_barred (wCons (wVar 1) (wCons (wVar 2) (wNil))))) (wSeq (wAsg (wCallM 0 fs__law_played (wCons (wVar 1) (wCons (wVar 2) (wCons (wC (.int 60)) (wNil))))) (wTgt (wgCons (wName 5) (wgCons (wName 6) (wgNil))))) (wSeq (wSet 7 (wC1 kRepr (wLook 5))) (wSeq (wSet 8 (wCall fs__law_in_order (wCons (wVar 6) (wNil)))) (wBlk (wBSeq (wSet 9 (wLst (wCons (wCall fs_after_turns (wCons (wVar 1) (wCons (wVar 2) (wCons (wVar 5) (wNil))))) (wCons (wCallK [2, 1, 0] fs_after_turns (wCons (wVar 5) (wCons (wVar 2) (wCons (wVar 1) (wNil))))) (wNil))))) (wBSeq (wIfS (wOr (wTst (wOp kNe (wC1 kRepr (wLook 9)) (wC1 kRepr (wVal (wLst (wCons (wVar 8) (wCons (wVar 8) (wNil)))))))) (wTst (wOp kNe (wC1 kRepr (wVal (wLst (wCons (wVar 2) (wCons (wVar 5) (wNil)))))) (wOp kAdd (wOp kAdd (wOp kAdd (wOp kAdd (wC (.str ("[" : PySem.Str))) (wVar 3)) (wC (.str (", " : PySem.Str)))) (wVar 7)) (wC (.str ("]" : PySem.Str))))))) (wRet (wC (.bl false))) (wNext)) (wSp (wSp2 9 0 10 (wJEnd (wSeq (wIfS (wOr (wTst (wOp kNe (wC1 kRepr (wVal (wCall fs_after_turns (wCons (wVar 1) (wCons (wVar 2) (wCons (wVar 5) (wNil))))))) (wC1 kRepr (wLook 8)))) (wTst (wOp kNe (wLc (wItL (wLook 5)) (wName 15) (wTst (wIn (wVar 15) (wLook 4))) (wVar 15) [15]) (wLst (wNil))))) (wRet (wC (.bl false))) (wNext)) (wSeq (wSet 11 (wCall fs_barred (wCons (wVar 1) (wCons (wVar 8) (wNil))))) (wSeq (wIfS (wOr (wTst (wOp kNe (wVar 11) (wCall fs__law_barred (wCons (wVar 1) (wCons (wVar 8) (wNil)))))) (wTst (wOp kNe (wLc (wItL (wLook 4)) (wName 15) (wTst (wNotIn (wVar 15) (wLook 11))) (wVar 15) [15]) (wLst (wNil))))) (wRet (wC (.bl false))) (wNext)) (wSeq (wFor (wItL (wLook 2)) (wTgt (wgCons (wName 12) (wgCons (wName 13) (wgNil)))) (wSeq (wSet 14 (wLc (wItL (wLook 5)) (wName 15) (wOr (wTst (wOp kEq (wVar 15) (wVar 12))) (wTst (wOp kEq (wVar 15) (wVar 13)))) (wVar 15) [15])) (wIfS (wTst (wOp kNe (wLc (wItZ (wVar 14) (wSl (wLook 14) (wPart (wC (.int 1))) (wNoP))) (wTgt (wgCons (wName 16) (wgCons (wName 11) (wgNil)))) (wTst (wOp kEq (wVar 16) (wVar 11))) (wC (.int 1)) [16, 11]) (wLst (wNil)))) (wRet (wC (.bl false))) (wNext)))) (wRet (wOp kEq (wC1 kRepr (wVal (wCall fs_after_turns (wCons (wVar 1) (wCons (wVar 2) (wCons (wLst (wNil)) (wNil))))))) (wC1 kRepr (wVal (wCall fs__law_in_order (wCons (wVar 2) (wNil)))))))))))))))))))))
@[reducible] def w_law : WS := wSeq (wForNew 1 (wItL (wVal (wOp kAdd (wSlScr 0 (wPart (wC (.int 6)))) (wLst (wCons (wC (.int 0)) (wNil)))))) (wName 7) (wCallN fs__law_draws (wCons (wVar 7) (wNil))) [7] (wFor (wItL (wVal (wLst (wCons (wC (.int 12)) (wCons (wC (.int 5)) (wNil)))))) (wName 4) (wSeq (wSet 5 (wOp kAdd (wC (.int 1)) (wOp (kI (fun _ j => 0 < j) fun i j => .int (i % j)) (wC1 kInt (wVal (wCallM 1 fs__law_next (wNil)))) (wVar 4)))) (wSeq (wSet 6 (wCallM 1 fs__law_sides (wCons (wVar 5) (wCons (wCallM 1 fs__law_bars (wCons (wVar 5) (wCons (wC (.int 33)) (wNil)))) (wNil))))) (wIfS (wOr (wNot (wTst (wCallM 1 fs__law_right (wCons (wVar 5) (wCons (wVar 6) (wNil)))))) (wNot (wTst (wCallM 1 fs__law_run_right (wCons (wVar 5) (wCons (wVar 6) (wNil))))))) (wRet (wC (.bl false))) (wNext)))))) (wSeq (wSet 2 (wLst (wCons (wLst (wCons (wC (.int 1)) (wCons (wC (.int 2)) (wNil)))) (wCons (wLst (wCons (wC (.int 1)) (wCons (wC (.int 3)) (wNil)))) (wCons (wLst (wCons (wC (.int 2)) (wCons (wC (.int 3)) (wNil)))) (wNil)))))) (wSeq (wIfS (wTst (wOp kNe (wLst (wCons (wCall fs_may_turn (wCons (wC (.int 3)) (wCons (wVar 2) (wNil)))) (wCons (wCall fs_turn (wCons (wC (.int 3)) (wCons (wVar 2) (wCons (wC (.int 3)) (wNil))))) (wNil)))) (wLst (wCons (wLst (wCons (wC (.int 3)) (wNil))) (wCons (wLst (wCons (wLst (wCons (wC (.int 1)) (wCons (wC (.int 2)) (wNil)))) (wCons (wLst (wCons (wC (.int 3)) (wCons (wC (.int 1)) (wNil)))) (wCons (wLst (wCons (wC (.int 3)) (wCons (wC (.int 2)) (wNil)))) (wNil))))) (wNil)))))) (wRet (wC (.bl false))) (wNext)) (wSeq (wIfS (wTst (wOp kNe (wCall fs_barred (wCons (wC (.int 3)) (wCons (wLst (wCons (wLst (wCons (wC (.int 3)) (wCons (wC (.int 1)) (wNil)))) (wCons (wLst (wCons (wC (.int 1)) (wCons (wC (.int 2)) (wNil)))) (wCons (wLst (wCons (wC (.int 2)) (wCons (wC (.int 3)) (wNil)))) (wNil))))) (wNil)))) (wLst (wCons (wC (.int 1)) (wCons (wC (.int 2)) (wCons (wC (.int 3)) (wNil))))))) (wRet (wC (.bl false))) (wNext)) (wSeq (wIfS (wTst (wOp kNe (wLst (wCons (wCall fs_may_turn (wCons (wC (.int 1)) (wCons (wLst (wNil)) (wNil)))) (wCons (wCall fs_turn (wCons (wC (.int 1)) (wCons (wLst (wNil)) (wCons (wC (.int 1)) (wNil))))) (wCons (wCall fs_after_turns (wCons (wC (.int 1)) (wCons (wLst (wNil)) (wCons (wOp kMul (wLst (wCons (wC (.int 1)) (wNil))) (wC (.int 9))) (wNil))))) (wCons (wCall fs_barred (wCons (wC (.int 1)) (wCons (wLst (wNil)) (wNil)))) (wNil)))))) (wLst (wCons (wLst (wCons (wC (.int 1)) (wNil))) (wCons (wLst (wNil)) (wCons (wLst (wNil)) (wCons (wLst (wNil)) (wNil)))))))) (wRet (wC (.bl false))) (wNext)) (wSeq (wSet 3 (wLst (wCons (wLst (wCons (wC (.int 1)) (wCons (wC (.int 2)) (wNil)))) (wCons (wLst (wCons (wC (.int 2)) (wCons (wC (.int 3)) (wNil)))) (wCons (wLst (wCons (wC (.int 3)) (wCons (wC (.int 1)) (wNil)))) (wCons (wLst (wCons (wC (.int 3)) (wCons (wC (.int 4)) (wNil)))) (wCons (wLst (wCons (wC (.int 5)) (wCons (wC (.int 1)) (wNil)))) (wCons (wLst (wCons (wC (.int 6)) (wCons (wC (.int 5)) (wNil)))) (wCons (wLst (wCons (wC (.int 6)) (wCons (wC (.int 7)) (wNil)))) (wNil)))))))))) (wSeq (wIfS (wTst (wOp kNe (wLst (wCons (wCall fs_barred (wCons (wC (.int 7)) (wCons (wVar 3) (wNil)))) (wCons (wCall fs_may_turn (wCons (wC (.int 7)) (wCons (wVar 3) (wNil)))) (wNil)))) (wLst (wCons (wLst (wCons (wC (.int 1)) (wCons (wC (.int 2)) (wCons (wC (.int 3)) (wCons (wC (.int 5)) (wCons (wC (.int 6)) (wNil))))))) (wCons (wLst (wCons (wC (.int 4)) (wCons (wC (.int 7)) (wNil)))) (wNil)))))) (wRet (wC (.bl false))) (wNext)) (wRet (wOp kEq (wCall fs_after_turns (wCons (wC (.int 3)) (wCons (wVar 2) (wCons (wLst (wCons (wC (.int 3)) (wCons (wC (.int 2)) (wCons (wC (.int 1)) (wNil))))) (wNil))))) (wVar 2)))))))))
end Q

/-! Q, part 4: the program's small defs. -/
namespace Q
open PySem L2 Y
-- the head of a wp, unfolded, through tests that are told
local macro_rules | `(tactic| subst_eqs) => `(tactic| ((with_reducible conv => whnf); repeat ((with_reducible first | refine bT rfl ?_ | refine bF rfl ?_ | refine dT rfl ?_ | refine dF rfl ?_ | refine bF (nT rfl) ?_ | refine bT (nF rfl) ?_); (with_reducible conv => whnf))))
abbrev PP (fs : FS) (w : WS) (N : List Str) : Prop := ∀ ds Q ex, fs ds Q ex → w { nx := fun _ => Q .non true, rt := fun d fr _ => Q d fr, xe := ex } (startD N ds)
theorem p_is_whole : PP fs_is_whole w_is_whole ["thing"] := by
  rintro ds Qr ex ⟨d, t, rfl, ht, q⟩
  show w_is_whole _ [some (.dat d false)]
  cases d <;> first | (cases ht; done) | skip
  all_goals subst_eqs
  all_goals exact q
theorem p_check_number : PP fs_check_number w_check_number ["number", "least", "most"] := by
  rintro ds Q ex ⟨n, a, b, rfl, h1, h2, q⟩
  show w_check_number _ [some (.dat (.int n) false), some (.dat (.int a) false), some (.dat (.int b) false)]
  subst_eqs
  refine ⟨.int n, "int", rfl, rfl, ?_⟩
  subst_eqs
  refine dT (yT h1) ?_
  subst_eqs
  refine bF (nT (yT h2)) ?_
  exact q
theorem p_check_points : PP fs_check_points w_check_points ["points"] := by
  rintro ds Q ex ⟨n, rfl, h1, h2, q⟩
  show w_check_points _ [some (.dat (.int n) false)]
  subst_eqs
  exact ⟨n, 1, 12, rfl, h1, h2, q⟩
theorem p_check_point : PP fs_check_point w_check_point ["point", "points"] := by
  rintro ds Q ex ⟨p, n, rfl, h1, h2, q⟩
  show w_check_point _ [some (.dat (.int p) false), some (.dat (.int n) false)]
  subst_eqs
  refine ⟨.int p, "int", rfl, rfl, ?_⟩
  subst_eqs
  refine dT (yT h1) ?_
  subst_eqs
  refine bF (nT (yT h2)) ?_
  exact q
theorem p_is_pair : PP fs_is_pair w_is_pair ["thing", "points", "point"] := by
  rintro ds Q ex ⟨⟨a, b⟩, n, rfl, ⟨⟨h1, h2⟩, ⟨h3, h4⟩, h5⟩, q⟩
  show w_is_pair _ [some (.dat (.lst [.int a, .int b]) false), some (.dat (.int n) false), none]
  simp only at h1 h2 h3 h4 h5
  subst_eqs
  refine ⟨size_ok (by simp), ?_⟩
  refine lc_mapS [a, b] (fun i => (.int i, false)) (fun i => .bl (decide (i ≤ n))) dep0 (fun i hi KT KF k => ?_) ?_
  · have hi' : 1 ≤ i := by
      rcases List.mem_cons.mp hi with e | hi
      · rw [e]; exact h1
      · rw [List.mem_singleton.mp hi]; exact h3
    subst_eqs
    refine ⟨.int i, "int", rfl, rfl, ?_⟩
    subst_eqs
    refine dT (yT hi') ?_
    subst_eqs
    exact k _ (by rfl)
  · subst_eqs
    refine ⟨[decide (a ≤ n), decide (b ≤ n)], rfl, ?_⟩
    refine dT (by rw [yT h2, yT h4]; rfl) ?_
    subst_eqs
    have e : decide (a = b) = false := yF h5
    have q' : Q (.bl (!decide (a = b))) true := by rw [e]; exact q
    exact q'
theorem p_turned_in : PP fs_turned_in w_turned_in ["arrows", "point", "tail", "head"] := by
  rintro ds Q ex ⟨l, p, rfl, hl, q⟩
  show w_turned_in _ [some (.dat (arD l) false), some (.dat (.int p) false), none, none]
  subst_eqs
  refine ⟨size_ok (by simp; omega), ?_⟩
  refine lc_mapS l (fun a => (prD a, false)) (fun a => prD (if a.2 = p then (a.2, a.1) else a)) dep0 (fun a ha KT KF k => ?_) ?_ (List.map_map ..)
  · obtain ⟨t, h⟩ := a
    subst_eqs
    refine bB (fun e => ?_) fun e => ?_
    · subst_eqs
      have e' : h = p := of_decide_eq_true e
      refine ⟨size_ok (by simp), ?_⟩
      rw [if_pos e'] at k
      exact k _ (by rfl)
    · subst_eqs
      have e' : ¬ h = p := of_decide_eq_false e
      refine ⟨size_ok (by simp), ?_⟩
      rw [if_neg e'] at k
      exact k _ (by rfl)
  · have e : (l.map fun a => prD (if a.2 = p then (a.2, a.1) else a)) = (trn l p).map prD := by
      unfold trn
      rw [List.map_map]
      rfl
    rw [e]
    exact q
end Q

/-! Q, part 5: the program's defs, on. -/
namespace Q
open PySem L2 Y
-- the head of a wp, unfolded, through tests that are told
local macro_rules | `(tactic| subst_eqs) => `(tactic| ((with_reducible conv => whnf); repeat ((with_reducible first | refine bT rfl ?_ | refine bF rfl ?_ | refine dT rfl ?_ | refine dF rfl ?_ | refine bF (nT rfl) ?_ | refine bT (nF rfl) ?_); (with_reducible conv => whnf))))
theorem p_check_turns : PP fs_check_turns w_check_turns ["turns", "points", "index", "point"] := by
  rintro ds Q ex ⟨ts, n, rfl, h, q⟩
  show w_check_turns _ [some (.dat (inD ts) false), some (.dat (.int n) false), none, none]
  subst_eqs
  refine ⟨rfl, ?_⟩
  refine for_pre ts.zipIdx _ (fun _ Γ => ∃ a b, Γ = [some (.dat (inD ts) false), some (.dat (.int n) false), a, b]) ⟨none, none, rfl⟩ ?_ ?_ (enum_map ts .int false)
  · rintro pre ⟨t, i⟩ r Γ N e ⟨a, b, rfl⟩ hN
    have ht : t ∈ ts := by
      have : (t, i) ∈ ts.zipIdx := by rw [e]; simp
      exact (List.mem_zipIdx this).2.2 ▸ List.getElem_mem _
    subst_eqs
    refine ⟨.int t, "int", rfl, rfl, ?_⟩
    subst_eqs
    refine dT (yT (h t ht).1) ?_
    subst_eqs
    refine bF (nT (yT (h t ht).2)) ?_
    exact hN _ ⟨_, _, rfl⟩
  · rintro Γ ⟨a, b, rfl⟩
    exact q
theorem may_look (l : Ar) (k : Int) : (lookD (l.foldl (fun acc a => putD acc (Sum.inl a.1 : Key) (.bl true)) []) (.inl k)).isSome = decide (k ∈ l.map (·.1)) := by
  have h := fold_look (fun a : Int × Int => (Sum.inl a.1 : Key)) (fun _ => .bl true) (.inl k) l []
  have e : (Sum.inl k : Key) ∈ l.map (fun a : Int × Int => (Sum.inl a.1 : Key)) ↔ k ∈ l.map (·.1) := by simp
  rw [e] at h
  by_cases hk : k ∈ l.map (·.1)
  · rw [decide_eq_true hk]
    exact h.mpr (.inr hk)
  · rw [decide_eq_false hk]
    cases q : lookD (l.foldl (fun acc a => putD acc (Sum.inl a.1 : Key) (.bl true)) []) (.inl k) with
    | none => rfl
    | some x =>
      rw [q] at h
      rcases h.mp rfl with z | z
      · cases z
      · exact absurd z hk
/-- the numbers of a range as a walk's items -/
theorem rng_pts (n : Int) : rngD 1 (n + 1 - 1).toNat = (pts n).map fun k => (.int k, true) := by
  unfold rngD pts
  rw [List.map_map, Int.add_sub_cancel]
  rfl
theorem p_may_in : PP fs_may_in w_may_in ["points", "arrows", "tails", "tail", "head", "point"] := by
  rintro ds Q ex ⟨n, l, rfl, h1, h2, hl, q⟩
  show w_may_in _ [some (.dat (.int n) false), some (.dat (arD l) false), none, none, none, none]
  subst_eqs
  refine ⟨size_ok (by simp; omega), ?_⟩
  refine dc_map l (fun a => (prD a, false)) (fun a => .inl a.1) (fun _ => .bl true) dep0 (fun a ha KT KF k => ?_) ?_ (List.map_map ..)
  · subst_eqs
    exact k _ (by rfl)
  · subst_eqs
    refine ⟨⟨by decide, by decide, by omega, by omega⟩, ?_, ?_⟩
    · refine size_ok ?_
      rw [rng_pts, List.length_map]
      unfold pts
      rw [List.length_map, List.length_range]
      omega
    · refine lc_filS (pts n) (fun k => (.int k, true)) (fun k => decide (k ∉ l.map fun a : Int × Int => a.1)) .int dep0 (fun k hk KT KF kk => ?_) q (rng_pts n)
      subst_eqs
      have ml := may_look l k
      refine bB (fun e => ?_) fun e => ?_
      · have e2 : decide (k ∉ l.map (·.1)) = true := by
          rw [decide_not, ← ml]
          exact e
        rw [if_pos e2] at kk
        exact kk _ (by rfl)
      · have e2 : ¬ decide (k ∉ l.map (·.1)) = true := by
          rw [decide_not, ← ml]
          intro z
          have e' : (!(lookD (l.foldl (fun acc a => putD acc (Sum.inl a.1 : Key) (.bl true)) []) (.inl k)).isSome) = false := e
          rw [z] at e'
          cases e'
        rw [if_neg e2] at kk
        exact kk _ (by rfl)
theorem p_check_arrows : PP fs_check_arrows w_check_arrows ["arrows", "points", "wrong"] := by
  rintro ds Q ex ⟨n, l, rfl, ok, q⟩
  show w_check_arrows _ [some (.dat (arD l) false), some (.dat (.int n) false), none]
  subst_eqs
  have hl : ¬ (30 : Int) < ((l.map prD).length : Int) := by
    have := ok.len
    rw [List.length_map]
    omega
  refine bF (yF hl) ?_
  subst_eqs
  refine ⟨l, n, rfl, ok.len, ok.rng, ok.dst, ?_⟩
  subst_eqs
  exact ⟨n, l, rfl, ok.n1, ok.n12, ok.rng, ok.con, q⟩
theorem p_check_both : PP fs_check_both w_check_both ["points", "arrows"] := by
  rintro ds Q ex ⟨n, l, rfl, ok, q⟩
  show w_check_both _ [some (.dat (.int n) false), some (.dat (arD l) false)]
  subst_eqs
  refine ⟨n, rfl, ok.n1, ok.n12, ?_⟩
  subst_eqs
  exact ⟨n, l, rfl, ok, q⟩
theorem p_may_turn : PP fs_may_turn w_may_turn ["points", "arrows"] := by
  rintro ds Q ex ⟨n, l, rfl, ok, q⟩
  show w_may_turn _ [some (.dat (.int n) false), some (.dat (arD l) false)]
  subst_eqs
  refine ⟨n, l, rfl, ok, ?_⟩
  subst_eqs
  have := ok.n1
  have := ok.n12
  have := ok.len
  exact ⟨n, l, rfl, by omega, by omega, by omega, q⟩
theorem p_barred : PP fs_barred w_barred ["points", "arrows"] := by
  rintro ds Q ex ⟨n, l, rfl, ok, q⟩
  show w_barred _ [some (.dat (.int n) false), some (.dat (arD l) false)]
  subst_eqs
  refine ⟨n, l, rfl, ok, ?_⟩
  subst_eqs
  have := ok.n1
  have := ok.n12
  have := ok.len
  exact ⟨n, l, rfl, by omega, by omega, by omega, q⟩
/-! ### data facts -/
theorem okD_in (l : List Int) : okD (inD l) = true := by
  have h1 : ∀ l : List Int, plainAll (l.map .int) = true := fun l => by
    induction l with
    | nil => rfl
    | cons a l ih => rw [List.map_cons]; unfold plainAll; rw [ih]; rfl
  have h2 : ∀ l : List Int, depAll (l.map .int) = 0 := fun l => by
    induction l with
    | nil => rfl
    | cons a l ih => rw [List.map_cons]; unfold depAll; rw [ih]; rfl
  unfold okD
  rw [Bool.and_eq_true]
  refine ⟨by unfold Y.plain; exact h1 l, decide_eq_true ?_⟩
  unfold dep
  rw [h2]
  decide
theorem any_in (l : List Int) (p : Int) : ((l.map D.int).any fun z => (pd z).eqv (pd (.int p))) = decide (p ∈ l) := by
  induction l with
  | nil => simp
  | cons a l ih =>
    rw [List.map_cons, List.any_cons, ih]
    have e : (pd (D.int a)).eqv (pd (.int p)) = decide (a = p) := by
      unfold pd
      simp [PyData.eqv]
      rfl
    rw [e]
    by_cases h : a = p
    · subst h; simp
    · have h2 : ¬ p = a := fun z => h z.symm
      simp [h, h2]
theorem min_of {a b m : Int} (h : m ∈ [a, b]) (k : ∀ y ∈ [a, b], m ≤ y) : m = min a b := by
  have k1 := k a (by simp)
  have k2 := k b (by simp)
  rcases List.mem_cons.mp h with e | h
  · omega
  · rw [List.mem_singleton] at h
    omega
theorem max_of {a b m : Int} (h : m ∈ [a, b]) (k : ∀ y ∈ [a, b], y ≤ m) : m = max a b := by
  have k1 := k a (by simp)
  have k2 := k b (by simp)
  rcases List.mem_cons.mp h with e | h
  · omega
  · rw [List.mem_singleton] at h
    omega
theorem pts_mem {n k : Int} : k ∈ pts n ↔ 1 ≤ k ∧ k ≤ n := by
  unfold pts
  rw [List.mem_map]
  constructor
  · rintro ⟨i, hi, e⟩
    rw [List.mem_range] at hi
    omega
  · rintro ⟨h1, h2⟩
    exact ⟨(k - 1).toNat, List.mem_range.mpr (by omega), by omega⟩
theorem may_mem {n k : Int} {l : Ar} : k ∈ mayI n l ↔ (1 ≤ k ∧ k ≤ n) ∧ k ∉ l.map (·.1) := by
  unfold mayI
  rw [List.mem_filter, pts_mem, decide_eq_true_eq]
theorem trn_len (l : Ar) (p : Int) : (trn l p).length = l.length := List.length_map ..
theorem ply_len : ∀ (ts : List Int) (l : Ar), (ply l ts).length = l.length
  | [], _ => rfl
  | t :: ts, l => (ply_len ts (trn l t)).trans (trn_len l t)
theorem p_turn : PP fs_turn w_turn ["points", "arrows", "point"] := by
  rintro ds Q ex ⟨n, l, p, rfl, ok, hp, q⟩
  show w_turn _ [some (.dat (.int n) false), some (.dat (arD l) false), some (.dat (.int p) false)]
  have hp2 := (may_mem.mp hp).1
  have := ok.n1
  have := ok.n12
  have := ok.len
  subst_eqs
  refine ⟨n, l, rfl, ok, ?_⟩
  subst_eqs
  refine ⟨p, n, rfl, hp2.1, hp2.2, ?_⟩
  subst_eqs
  refine ⟨n, l, rfl, by omega, by omega, by omega, ?_⟩
  subst_eqs
  refine ⟨⟨rfl, okD_in _⟩, ?_⟩
  rw [any_in, decide_eq_true hp]
  subst_eqs
  refine ⟨l, p, rfl, by omega, ?_⟩
  subst_eqs
  exact ⟨trn l p, rfl, by rw [trn_len]; omega, q⟩
theorem p_after_in : PP fs_after_in w_after_in ["points", "arrows", "turns", "index", "point"] := by
  rintro ds Q ex ⟨n, l, ts, rfl, h1, h2, hl, lg, q⟩
  show w_after_in _ [some (.dat (.int n) false), some (.dat (arD l) false), some (.dat (inD ts) false), none, none]
  subst_eqs
  refine ⟨rfl, ?_⟩
  refine for_pre ts.zipIdx _ (fun pre Γ => ∃ f a b, Γ = [some (.dat (.int n) false), some (.dat (arD (ply l (pre.map (·.1)))) f), some (.dat (inD ts) false), a, b] ∧ legal n (ply l (pre.map (·.1))) (ts.drop pre.length)) ⟨false, none, none, rfl, lg⟩ ?_ ?_ (enum_map ts .int false)
  · rintro pre ⟨t, i⟩ r Γ N e ⟨f, a, b, rfl, lg⟩ hN
    have hts : ts = pre.map (·.1) ++ t :: r.map (·.1) := by
      have z := congrArg (List.map (·.1)) e
      simpa using z
    have hd : ts.drop pre.length = t :: r.map (·.1) := by
      rw [hts]
      simp
    rw [hd] at lg
    have len := ply_len (pre.map (·.1)) l
    subst_eqs
    refine ⟨n, _, rfl, h1, h2, by rw [len]; exact hl, ?_⟩
    subst_eqs
    refine ⟨⟨rfl, okD_in _⟩, ?_⟩
    rw [any_in, decide_eq_true lg.1]
    subst_eqs
    refine ⟨_, t, rfl, by rw [len]; exact hl, ?_⟩
    subst_eqs
    refine hN _ ⟨true, some (.dat (.int i) false), some (.dat (.int t) false), ?_, ?_⟩
    · rw [List.map_append]
      unfold ply
      rw [List.foldl_append]
      rfl
    · have e1 : ts.drop (pre ++ [(t, i)]).length = r.map (·.1) := by
        rw [List.length_append, List.length_singleton, ← List.drop_drop, hd]
        rfl
      rw [e1, List.map_append]
      have e2 : ply l (pre.map (·.1) ++ [(t, i)].map (·.1)) = trn (ply l (pre.map (·.1))) t := by
        unfold ply
        rw [List.foldl_append]
        rfl
      rw [e2]
      exact lg.2
  · rintro Γ ⟨f, a, b, rfl, _⟩
    have e : ts.zipIdx.map (·.1) = ts := by simp
    rw [e]
    subst_eqs
    refine ⟨size_ok (by simp), ?_⟩
    exact q _
theorem p_after_turns : PP fs_after_turns w_after_turns ["points", "arrows", "turns", "told", "wrong"] := by
  rintro ds Q ex ⟨n, l, ts, rfl, ok, lg, q⟩
  show w_after_turns _ [some (.dat (.int n) false), some (.dat (arD l) false), some (.dat (inD ts) false), none, none]
  have := ok.n1
  have := ok.n12
  have := ok.len
  subst_eqs
  refine ⟨n, l, rfl, ok, ?_⟩
  subst_eqs
  have rg : ∀ (ts : List Int) (l : Ar), legal n l ts → ∀ t ∈ ts, 1 ≤ t ∧ t ≤ n := by
    intro ts
    induction ts with
    | nil => intro l _ t ht; cases ht
    | cons a ts ih =>
      intro l lg t ht
      rcases List.mem_cons.mp ht with e | ht
      · rw [e]; exact (may_mem.mp lg.1).1
      · exact ih _ lg.2 t ht
  refine ⟨ts, n, rfl, rg ts l lg, ?_⟩
  subst_eqs
  refine ⟨n, l, ts, rfl, by omega, by omega, by omega, lg, fun fr => ?_⟩
  subst_eqs
  exact ⟨ply l ts, rfl, by rw [ply_len]; omega, q⟩
theorem t4_depth (p : Int × Int) : (pd (t4 p)).depth ≤ 60 := Nat.le_trans (depth_pd _) (by unfold t4; unfold dep; unfold depAll; unfold depAll; unfold depAll; unfold depAll; unfold depAll; unfold dep; decide)
theorem t4_pd (p : Int × Int) : pd (t4 p) = .tuple [.int (min p.1 p.2), .int (max p.1 p.2), .int p.1, .int p.2] := by
  unfold t4 pd
  rfl
theorem sort_ok (l : Ar) (hl : l.length ≤ 100) : SortOk (l.map t4) := by
  refine ⟨?_, ?_, ?_, size_ok (by rw [List.length_map]; omega), fun d hd => ?_⟩
  · induction l with
    | nil => rfl
    | cons a l ih =>
      rw [List.map_cons]
      unfold plainAll
      rw [ih (by rw [List.length_cons] at hl; omega)]
      rfl
  · rw [List.map_map]
    refine PySem.W.AllAlike.of fun a b => ?_
    show PySem.W.alike (pd (t4 a)) (pd (t4 b)) = true
    rw [t4_pd, t4_pd]
    rfl
  · rw [List.map_map]
    refine PySem.W.Sortable.tuples fun a => ⟨_, _, t4_pd a⟩
  · obtain ⟨a, _, rfl⟩ := List.mem_map.mp hd
    exact t4_depth a
theorem p_in_order : PP fs_in_order w_in_order ["arrows", "low", "high", "tail", "head", "one"] := by
  rintro ds Q ex ⟨l, rfl, hl, q⟩
  show w_in_order _ [some (.dat (arD l) false), none, none, none, none, none]
  subst_eqs
  refine ⟨size_ok (by simp; omega), ?_⟩
  refine lc_mapS l (fun a => (prD a, false)) t4 dep0 (fun a ha KT KF k => ?_) ?_ (List.map_map ..)
  · obtain ⟨t, h⟩ := a
    subst_eqs
    refine ⟨[t, h], rfl, by simp, fun m m1 m2 => ?_⟩
    have em := min_of m1 m2
    subst_eqs
    refine ⟨[t, h], rfl, by simp, fun m' m1' m2' => ?_⟩
    have em' := max_of m1' m2'
    subst_eqs
    rw [at0]
    subst_eqs
    rw [at1]
    subst_eqs
    refine ⟨size_ok (by simp), ?_⟩
    rw [em, em']
    exact k _ (by rfl)
  · subst_eqs
    refine ⟨sort_ok l hl, ?_⟩
    subst_eqs
    have es : (l.map t4).mergeSort leD = (srt l).map t4 := (List.map_mergeSort (r := fun p q => leD (t4 p) (t4 q)) (s := leD) (f := t4) (l := l) fun a _ b _ => rfl).symm
    rw [es]
    refine ⟨size_ok (by rw [List.length_map, List.length_map]; unfold srt; rw [List.length_mergeSort]; omega), ?_⟩
    refine lc_mapS (srt l) (fun a => (t4 a, true)) prD dep0 (fun a ha KT KF k => ?_) q (List.map_map ..)
    subst_eqs
    refine ⟨size_ok (by simp), ?_⟩
    exact k _ (by rfl)
end Q

/-! Q, part 6: the program's walks over pairs, what is reached. -/
namespace Q
open PySem L2 Y
-- the head of a wp, unfolded, through tests that are told
local macro_rules | `(tactic| subst_eqs) => `(tactic| ((with_reducible conv => whnf); repeat ((with_reducible first | refine bT rfl ?_ | refine bF rfl ?_ | refine dT rfl ?_ | refine dF rfl ?_ | refine bF (nT rfl) ?_ | refine bT (nF rfl) ?_); (with_reducible conv => whnf))))
def k2 (p : Int × Int) : List Key := [.inl (min p.1 p.2), .inl (max p.1 p.2)]
theorem k2_ends {p q : Int × Int} (h : k2 p = k2 q) : ends2 p = ends2 q := by
  unfold k2 at h
  unfold ends2
  injection h with h1 h2
  injection h1 with h1
  injection h2 with h2 _
  injection h2 with h2
  rw [h1, h2]
theorem putD_len {κ : Type} [DecidableEq κ] (l : List (κ × D)) (k : κ) (d : D) : (putD l k d).length ≤ l.length + 1 := by
  unfold putD
  split
  · rw [List.length_map]; omega
  · rw [List.length_append]; simp
theorem p_wrong_pair : PP fs_wrong_pair w_wrong_pair ["pairs", "points", "seen", "index", "pair"] := by
  rintro ds Q ex ⟨l, n, rfl, hl, hr, hd, q⟩
  show w_wrong_pair _ [some (.dat (arD l) false), some (.dat (.int n) false), none, none, none]
  subst_eqs
  refine ⟨rfl, ?_⟩
  refine for_pre l.zipIdx _ (fun pre Γ => ∃ kvs f a b, Γ = [some (.dat (arD l) false), some (.dat (.int n) false), some (.own (.dt kvs) f), a, b] ∧ kvs.length ≤ pre.length ∧ ∀ k, (lookD kvs k).isSome = true → ∃ p ∈ pre.map (·.1), k = k2 p) ⟨[], true, none, none, rfl, Nat.le_refl _, fun k h => by cases h⟩ ?_ ?_ (enum_map l prD false)
  · rintro pre ⟨⟨t, h⟩, i⟩ r Γ N e ⟨kvs, f, a, b, rfl, hlen, hk⟩ hN
    have hls : l = pre.map (·.1) ++ (t, h) :: r.map (·.1) := by
      have z := congrArg (List.map (·.1)) e
      simpa using z
    have hm : (t, h) ∈ l := by rw [hls]; simp
    have plen : pre.length ≤ 30 := by
      have z := congrArg List.length hls
      simp at z
      omega
    have hnew : (lookD kvs (k2 (t, h))).isSome = false := by
      cases q : (lookD kvs (k2 (t, h))).isSome with
      | false => rfl
      | true =>
        obtain ⟨p, hp, ek⟩ := hk _ q
        rw [hls, List.pairwise_append] at hd
        exact absurd (k2_ends ek).symm (hd.2.2 p hp (t, h) List.mem_cons_self)
    subst_eqs
    refine ⟨(t, h), n, rfl, hr _ hm, ?_⟩
    subst_eqs
    refine ⟨[t, h], rfl, by simp, fun m m1 m2 => ?_⟩
    have em := min_of m1 m2
    subst em
    subst_eqs
    refine ⟨[t, h], rfl, by simp, fun m m1 m2 => ?_⟩
    have em := max_of m1 m2
    subst em
    subst_eqs
    refine ⟨size_ok (by simp), ?_⟩
    subst_eqs
    refine bF hnew ?_
    subst_eqs
    refine ⟨⟨_, rfl⟩, ?_⟩
    subst_eqs
    refine ⟨[t, h], rfl, by simp, fun m m1 m2 => ?_⟩
    have em := min_of m1 m2
    subst em
    subst_eqs
    refine ⟨[t, h], rfl, by simp, fun m m1 m2 => ?_⟩
    have em := max_of m1 m2
    subst em
    subst_eqs
    refine ⟨size_ok (by simp), ?_⟩
    subst_eqs
    refine ⟨size_lt (by omega), ?_⟩
    subst_eqs
    refine hN _ ⟨putD kvs (k2 (t, h)) (.bl true), _, _, _, rfl, ?_, fun k hk2 => ?_⟩
    · have := putD_len kvs (k2 (t, h)) (.bl true)
      simp
      omega
    · rw [lookD_put] at hk2
      by_cases ek : k = k2 (t, h)
      · exact ⟨(t, h), by simp, ek⟩
      · rw [if_neg ek] at hk2
        obtain ⟨p, hp, ep⟩ := hk k hk2
        exact ⟨p, by rw [List.map_append]; exact List.mem_append_left _ hp, ep⟩
  · rintro Γ ⟨kvs, f, a, b, rfl, _, _⟩
    exact q
/-! ### what is reached -/
def keysD (ks : List Int) : List (Key × D) := ks.map fun k => (.inl k, .bl true)
theorem keysD_look (ks : List Int) (k : Int) : (lookD (keysD ks) (.inl k)).isSome = decide (k ∈ ks) := by
  induction ks with
  | nil => rfl
  | cons a ks ih =>
    unfold keysD at ih ⊢
    rw [List.map_cons, lookD_cons]
    by_cases h : a = k
    · subst h
      rw [if_pos rfl]
      simp
    · have h2 : ¬ (Sum.inl a : Key) = .inl k := fun z => h (by injection z)
      have h3 : ¬ k = a := fun z => h z.symm
      rw [if_neg h2, ih]
      simp [h3]
theorem keysD_put {ks : List Int} {o : Int} (h : o ∉ ks) : putD (keysD ks) (.inl o) (.bl true) = keysD (ks ++ [o]) := by
  unfold putD
  rw [any_look, keysD_look, decide_eq_false h, if_neg Bool.false_ne_true]
  unfold keysD
  rw [List.map_append]
  rfl
theorem few : ∀ (N : Nat) (ks : List Int), ks.Nodup → (∀ k ∈ ks, 1 ≤ k ∧ k ≤ (N : Int)) → ks.length ≤ N
  | 0, ks, _, h => by
    cases ks with
    | nil => exact Nat.le_refl _
    | cons a r => have := h a List.mem_cons_self; omega
  | N + 1, ks, nd, h => by
    have ih := few N (ks.erase ((N : Int) + 1)) (nd.erase _) fun k hk => by
      rw [nd.mem_erase_iff] at hk
      have := h k hk.2
      have := hk.1
      omega
    rw [List.length_erase] at ih
    split at ih <;> omega
theorem eqv_nil (ws : List Int) : (pd (.lst (ws.map .int))).eqv (pd (.lst [])) = decide (ws = []) := by
  cases ws with
  | nil =>
    unfold pd pdAll
    simp [PyData.eqv, PyData.eqvAll]
  | cons a r =>
    rw [List.map_cons]
    unfold pd pdAll
    simp [PyData.eqv, PyData.eqvAll]
/-- the state of the search -/
structure Inv (n : Int) (l : Ar) (ks ws : List Int) : Prop where
  nd : ks.Nodup
  rg : ∀ k ∈ ks, (1 ≤ k ∧ k ≤ n) ∧ Rch l 1 k
  one : 1 ∈ ks
  wk : ∀ w ∈ ws, w ∈ ks
def nb (l : Ar) (k c : Int) : Prop := (k, c) ∈ l ∨ (c, k) ∈ l
theorem Inv.len {n : Int} {l : Ar} {ks ws : List Int} (h : Inv n l ks ws) : ks.length ≤ n.toNat := few n.toNat ks h.nd fun k hk => by
  have := (h.rg k hk).1
  omega
/-- one more is met -/
def met (ks ws : List Int) (o : Int) : List Int × List Int := if o ∈ ks then (ks, ws) else (ks ++ [o], ws ++ [o])
theorem Inv.met {n : Int} {l : Ar} {ks ws : List Int} (h : Inv n l ks ws) {o : Int} (ho : (1 ≤ o ∧ o ≤ n) ∧ Rch l 1 o) : Inv n l (met ks ws o).1 (met ks ws o).2 := by
  unfold Q.met
  split
  · exact h
  · rename_i no
    refine ⟨List.nodup_append.mpr ⟨h.nd, List.pairwise_singleton _ _, fun a ha b hb e => no (by rw [List.mem_singleton.mp hb] at e; rw [← e]; exact ha)⟩, fun k hk => ?_, List.mem_append_left _ h.one, fun w hw => ?_⟩
    · rcases List.mem_append.mp hk with hk | hk
      · exact h.rg k hk
      · rw [List.mem_singleton.mp hk]; exact ho
    · rcases List.mem_append.mp hw with hw | hw
      · exact List.mem_append_left _ (h.wk w hw)
      · exact List.mem_append_right _ hw
theorem met_mem {ks ws : List Int} {o : Int} : o ∈ (met ks ws o).1 := by
  unfold met
  split
  · assumption
  · simp
theorem met_sub {ks ws : List Int} {o k : Int} (h : k ∈ ks) : k ∈ (met ks ws o).1 := by
  unfold met
  split
  · exact h
  · exact List.mem_append_left _ h
theorem met_new {ks ws : List Int} {o k : Int} (h : k ∈ (met ks ws o).1) (hw : k ∉ (met ks ws o).2) : k ∈ ks ∧ k ∉ ws := by
  unfold met at h hw
  split at h
  · rename_i ho
    rw [if_pos ho] at hw
    exact ⟨h, hw⟩
  · rename_i ho
    rw [if_neg ho] at hw
    rcases List.mem_append.mp h with h | h
    · exact ⟨h, fun z => hw (List.mem_append_left _ z)⟩
    · exact absurd (List.mem_append_right _ h) hw
/-- what is left to do -/
def todo (n : Int) (ks ws : List Int) : Nat := 2 * (n.toNat - ks.length) + ws.length
theorem met_todo {n : Int} {l : Ar} {ks ws : List Int} {o : Int} (h : Inv n l (met ks ws o).1 (met ks ws o).2) : todo n (met ks ws o).1 (met ks ws o).2 ≤ todo n ks ws := by
  have hl := h.len
  unfold met todo at *
  split
  · exact Nat.le_refl _
  · rename_i ho
    rw [if_neg ho] at hl
    simp at hl ⊢
    omega
end Q

/-! Q, part 7: reached_in, check_hanging. -/
namespace Q
open PySem L2 Y
-- the head of a wp, unfolded, through tests that are told
local macro_rules | `(tactic| subst_eqs) => `(tactic| ((with_reducible conv => whnf); repeat ((with_reducible first | refine bT rfl ?_ | refine bF rfl ?_ | refine dT rfl ?_ | refine dF rfl ?_ | refine bF (nT rfl) ?_ | refine bT (nF rfl) ?_); (with_reducible conv => whnf))))
/-- the innermost body: other is met -/
abbrev wOther : WS := wIfS (wTst (wNotIn (wVar 7) (wLook 2))) (wSeq (wPut 2 (wVar 7) (wC (.bl true))) (wDrop (wApp 3 (wVar 7)))) (wNext)
abbrev gR (n : Int) (l : Ar) (ks ws : List Int) (f g : Bool) (a b c d : Option Sl) : En := [some (.dat (.int n) false), some (.dat (arD l) false), some (.own (.dk (keysD ks)) f), some (.own (inD ws) g), a, b, c, d]
theorem other_step {n : Int} {l : Ar} {ks ws : List Int} {f g fr : Bool} {a b c : Option Sl} {o : Int} {P : DE} (hk : ks.length ≤ 100) (hw : ws.length ≤ 1000)
    (h : ∀ f' g' d, P.nx (gR n l (met ks ws o).1 (met ks ws o).2 f' g' a b c d)) : wOther P (gR n l ks ws f g a b c (some (.dat (.int o) fr))) := by
  subst_eqs
  have e := keysD_look ks o
  by_cases ho : o ∈ ks
  · refine bF (nT (e.trans (decide_eq_true ho))) ?_
    subst_eqs
    have z := h f g (some (.dat (.int o) fr))
    unfold met at z
    rw [if_pos ho] at z
    exact z
  · refine bT (nF (e.trans (decide_eq_false ho))) ?_
    subst_eqs
    refine ⟨⟨_, rfl⟩, ?_⟩
    subst_eqs
    refine ⟨size_lt (by unfold keysD; rw [List.length_map]; omega), ?_⟩
    rw [keysD_put ho]
    subst_eqs
    refine ⟨trivial, ?_⟩
    subst_eqs
    refine ⟨size_lt (by rw [List.length_map]; omega), ?_⟩
    have z := h (f && true) (g && (fr || true)) (some (.dat (.int o) fr))
    unfold met at z
    rw [if_neg ho] at z
    have ez : (ws ++ [o]).map D.int = ws.map D.int ++ [D.int o] := by rw [List.map_append]; rfl
    unfold gR inD at z
    rw [ez] at z
    exact z
/-- the body over a pair -/
abbrev wPair : WS := wFor (wItL (wVal (wIf (wTst (wOp kEq (wVar 5) (wVar 4))) (wLst (wCons (wVar 6) (wNil))) (wIf (wTst (wOp kEq (wVar 6) (wVar 4))) (wLst (wCons (wVar 5) (wNil))) (wLst (wNil)))))) (wName 7) wOther
def exp1 (w : Int) (s : List Int × List Int) (p : Int × Int) : List Int × List Int := if p.1 = w then met s.1 s.2 p.2 else if p.2 = w then met s.1 s.2 p.1 else s
theorem pair_step {n : Int} {l : Ar} {ks ws : List Int} {f g f4 f5 f6 : Bool} {d : Option Sl} {w t h : Int} {P : DE} (hk : ks.length ≤ 100) (hw : ws.length ≤ 1000)
    (k : ∀ f' g' b c d, P.nx (gR n l (exp1 w (ks, ws) (t, h)).1 (exp1 w (ks, ws) (t, h)).2 f' g' (some (.dat (.int w) f4)) b c d)) :
    wPair P (gR n l ks ws f g (some (.dat (.int w) f4)) (some (.dat (.int t) f5)) (some (.dat (.int h) f6)) d) := by
  unfold exp1 at k
  subst_eqs
  by_cases e1 : t = w
  · refine bT (yT e1) ?_
    subst_eqs
    refine ⟨size_ok (by simp), ?_⟩
    subst_eqs
    refine ⟨rfl, ?_⟩
    rw [if_pos (show (t, h).1 = w from e1)] at k
    refine for_pre [h] (fun o => (.int o, true)) (fun pre Γ => match pre with
      | [] => Γ = gR n l ks ws f g (some (.dat (.int w) f4)) (some (.dat (.int t) f5)) (some (.dat (.int h) f6)) d
      | _ => ∃ f' g' d', Γ = gR n l (met ks ws h).1 (met ks ws h).2 f' g' (some (.dat (.int w) f4)) (some (.dat (.int t) f5)) (some (.dat (.int h) f6)) d') rfl ?_ ?_ (by simp [frs', flt])
    · rintro pre o r Γ N e hp hN
      cases pre with
      | nil =>
        cases e
        have hp' : Γ = gR n l ks ws f g (some (.dat (.int w) f4)) (some (.dat (.int t) f5)) (some (.dat (.int h) f6)) d := hp
        subst hp'
        exact other_step (fr := true) hk hw fun f' g' d => hN _ ⟨f', g', d, rfl⟩
      | cons a pre =>
        have := congrArg List.length e
        simp at this
    · rintro Γ ⟨f', g', d', rfl⟩
      exact k _ _ _ _ _
  · refine bF (yF e1) ?_
    subst_eqs
    rw [if_neg (show ¬ (t, h).1 = w from e1)] at k
    by_cases e2 : h = w
    · refine bT (yT e2) ?_
      subst_eqs
      refine ⟨size_ok (by simp), ?_⟩
      subst_eqs
      refine ⟨rfl, ?_⟩
      rw [if_pos (show (t, h).2 = w from e2)] at k
      refine for_pre [t] (fun o => (.int o, true)) (fun pre Γ => match pre with
        | [] => Γ = gR n l ks ws f g (some (.dat (.int w) f4)) (some (.dat (.int t) f5)) (some (.dat (.int h) f6)) d
        | _ => ∃ f' g' d', Γ = gR n l (met ks ws t).1 (met ks ws t).2 f' g' (some (.dat (.int w) f4)) (some (.dat (.int t) f5)) (some (.dat (.int h) f6)) d') rfl ?_ ?_ (by simp [frs', flt])
      · rintro pre o r Γ N e hp hN
        cases pre with
        | nil =>
          cases e
          have hp' : Γ = gR n l ks ws f g (some (.dat (.int w) f4)) (some (.dat (.int t) f5)) (some (.dat (.int h) f6)) d := hp
          subst hp'
          exact other_step (fr := true) hk hw fun f' g' d => hN _ ⟨f', g', d, rfl⟩
        | cons a pre =>
          have := congrArg List.length e
          simp at this
      · rintro Γ ⟨f', g', d', rfl⟩
        exact k _ _ _ _ _
    · refine bF (yF e2) ?_
      subst_eqs
      rw [if_neg (show ¬ (t, h).2 = w from e2)] at k
      refine ⟨size_ok (by simp), ?_⟩
      subst_eqs
      refine ⟨rfl, ?_⟩
      exact k _ _ _ _ _
theorem exp1_inv {n : Int} {l : Ar} {ks ws : List Int} {w : Int} {p : Int × Int} (h : Inv n l ks ws) (hw : w ∈ ks) (hp : p ∈ l) (hr : inR n p) : Inv n l (exp1 w (ks, ws) p).1 (exp1 w (ks, ws) p).2 := by
  unfold exp1
  split
  · rename_i e
    exact h.met ⟨hr.2.1, .step (h.rg w hw).2 (.inl (by rw [← e]; exact hp))⟩
  · split
    · rename_i e
      exact h.met ⟨hr.1, .step (h.rg w hw).2 (.inr (by rw [← e]; exact hp))⟩
    · exact h
theorem exp1_sub {ks ws : List Int} {w k : Int} {p : Int × Int} (h : k ∈ ks) : k ∈ (exp1 w (ks, ws) p).1 := by
  unfold exp1
  split
  · exact met_sub h
  · split
    · exact met_sub h
    · exact h
theorem exp1_new {ks ws : List Int} {w k : Int} {p : Int × Int} (h : k ∈ (exp1 w (ks, ws) p).1) (hw : k ∉ (exp1 w (ks, ws) p).2) : k ∈ ks ∧ k ∉ ws := by
  unfold exp1 at h hw
  split at h
  · rename_i e
    rw [if_pos e] at hw
    exact met_new h hw
  · rename_i e
    rw [if_neg e] at hw
    split at h
    · rename_i e2
      rw [if_pos e2] at hw
      exact met_new h hw
    · rename_i e2
      rw [if_neg e2] at hw
      exact ⟨h, hw⟩
theorem exp1_nb {ks ws : List Int} {w c : Int} {p : Int × Int} (h : (p.1 = w ∧ p.2 = c) ∨ (p.1 = c ∧ p.2 = w)) (hw : w ∈ ks) : c ∈ (exp1 w (ks, ws) p).1 := by
  unfold exp1
  rcases h with ⟨h1, h2⟩ | ⟨h1, h2⟩
  · rw [if_pos h1, ← h2]
    exact met_mem
  · by_cases e : p.1 = w
    · have : c = w := h1.symm.trans e
      rw [if_pos e]
      rw [this]
      exact met_sub hw
    · rw [if_neg e, if_pos h2, ← h1]
      exact met_mem
theorem exp1_todo {n : Int} {l : Ar} {ks ws : List Int} {w : Int} {p : Int × Int} (h : Inv n l (exp1 w (ks, ws) p).1 (exp1 w (ks, ws) p).2) : todo n (exp1 w (ks, ws) p).1 (exp1 w (ks, ws) p).2 ≤ todo n ks ws := by
  unfold exp1 at h ⊢
  split
  · rename_i e
    rw [if_pos e] at h
    exact met_todo h
  · rename_i e
    rw [if_neg e] at h
    split
    · rename_i e2
      rw [if_pos e2] at h
      exact met_todo h
    · exact Nat.le_refl _
theorem p_reached_in : PP fs_reached_in w_reached_in ["points", "pairs", "seen", "waiting", "here", "one", "two", "other"] := by
  rintro ds Q ex ⟨n, l, rfl, h1, h2, hr, q⟩
  show w_reached_in _ [some (.dat (.int n) false), some (.dat (arD l) false), none, none, none, none, none, none]
  subst_eqs
  refine ⟨size_ok (by simp), ?_⟩
  subst_eqs
  refine ⟨fun m Γ => ∃ ks ws f g a b c d, Γ = gR n l ks ws f g a b c d ∧ Inv n l ks ws ∧ (∀ k ∈ ks, k ∉ ws → ∀ c, nb l k c → c ∈ ks) ∧ m = todo n ks ws ∧ todo n ks ws ≤ 100, ⟨_, [1], [1], true, true, none, none, none, none, rfl, ?_, ?_, rfl, ?_⟩, ?_⟩
  · exact ⟨by simp, fun k hk => by rw [List.mem_singleton.mp hk]; exact ⟨⟨by omega, h1⟩, .refl 1⟩, by simp, fun w hw => hw⟩
  · intro k hk hn
    exact absurd hk hn
  · unfold todo
    simp
    omega
  rintro m Γ ⟨ks, ws, f, g, a, b, c, d, rfl, inv, cl, em, wl⟩
  subst_eqs
  refine ⟨size_ok (by simp), ?_⟩
  subst_eqs
  refine ⟨⟨okD_in ws, okD_in []⟩, ?_⟩
  rw [show (pd (D.lst (ws.map D.int))).eqv (pd (D.lst (List.map (fun x : D × Bool => x.1) []))) = decide (ws = []) from eqv_nil ws]
  by_cases hw : ws = []
  · refine bF (nT (decide_eq_true hw)) ?_
    subst_eqs
    refine q _ _ fun k => ?_
    rw [keysD_look, decide_eq_true_eq]
    constructor
    · exact fun hk => (inv.rg k hk).2
    · intro hk
      induction hk with
      | refl => exact inv.one
      | step _ hs ih => exact cl _ ih (by rw [hw]; simp) _ hs
  · refine bT (nF (decide_eq_false hw)) ?_
    obtain ⟨ws', w, ew⟩ : ∃ ws' w, ws = ws' ++ [w] := ⟨ws.dropLast, ws.getLast hw, (List.dropLast_concat_getLast hw).symm⟩
    subst ew
    have hwk : w ∈ ks := inv.wk w (by simp)
    subst_eqs
    rw [show (List.map D.int (ws' ++ [w])).getLast? = some (D.int w) from by rw [List.map_append]; exact List.getLast?_concat]
    subst_eqs
    rw [show (List.map D.int (ws' ++ [w])).dropLast = List.map D.int ws' from by rw [List.map_append]; exact List.dropLast_concat]
    subst_eqs
    refine ⟨rfl, ?_⟩
    have lk := inv.len
    have inv0 : Inv n l ks ws' := ⟨inv.nd, inv.rg, inv.one, fun x hx => inv.wk x (List.mem_append_left _ hx)⟩
    refine for_pre l (fun a => (prD a, false)) (fun pre Γ => ∃ ks1 ws1 f g f4 b c d, Γ = gR n l ks1 ws1 f g (some (.dat (.int w) f4)) b c d ∧ Inv n l ks1 ws1 ∧ w ∈ ks1 ∧ (∀ k ∈ ks1, k ∉ ws1 → k ≠ w → ∀ c, nb l k c → c ∈ ks1) ∧ (∀ p ∈ pre, ∀ c, ((p.1 = w ∧ p.2 = c) ∨ (p.1 = c ∧ p.2 = w)) → c ∈ ks1) ∧ todo n ks1 ws1 ≤ todo n ks ws')
      ⟨ks, ws', f, g, _, b, c, d, rfl, inv0, hwk, fun k hk hn hne c hc => cl k hk (fun z => ?_) c hc, fun p hp => (by cases hp), Nat.le_refl _⟩ ?_ ?_ (List.map_map ..)
    · rcases List.mem_append.mp z with z | z
      · exact hn z
      · exact hne (List.mem_singleton.mp z)
    · rintro pre ⟨t, h⟩ r Γ N e ⟨ks1, ws1, f, g, f4, b, c, d, rfl, i1, w1, c1, p1, t1⟩ hN
      have hm : (t, h) ∈ l := by rw [e]; simp
      have inv2 := exp1_inv i1 w1 hm (hr _ hm)
      have l1 := i1.len
      have wb : ws1.length ≤ 1000 := by
        have : todo n ks ws' ≤ todo n ks (ws' ++ [w]) := by unfold todo; simp
        unfold todo at *
        omega
      refine pair_step (P := { nx := N, ct := N, bk := _, rt := _, xe := _ }) (by omega) wb fun f' g' b c d => hN _ ⟨_, _, f', g', f4, b, c, d, rfl, inv2, exp1_sub w1, fun k hk hn hne c hc => ?_, fun p hp c hc => ?_, Nat.le_trans (exp1_todo inv2) t1⟩
      · obtain ⟨a1, a2⟩ := exp1_new hk hn
        exact exp1_sub (c1 k a1 a2 hne c hc)
      · rcases List.mem_append.mp hp with hp | hp
        · exact exp1_sub (p1 p hp c hc)
        · rw [List.mem_singleton.mp hp] at hc
          exact exp1_nb hc w1
    · rintro Γ ⟨ks1, ws1, f, g, f4, b, c, d, rfl, i1, w1, c1, p1, t1⟩
      refine ⟨todo n ks1 ws1, ?_, ks1, ws1, f, g, _, b, c, d, rfl, i1, fun k hk hn c hc => ?_, rfl, ?_⟩
      · rw [em]
        unfold todo at t1 ⊢
        simp
        omega
      · by_cases hkw : k = w
        · subst hkw
          rcases hc with hc | hc
          · exact p1 (k, c) hc c (.inl ⟨rfl, rfl⟩)
          · exact p1 (c, k) hc c (.inr ⟨rfl, rfl⟩)
        · exact c1 k hk hn hkw c hc
      · have : todo n ks ws' ≤ todo n ks (ws' ++ [w]) := by unfold todo; simp
        omega
end Q

/-! Q, part 8: check_hanging, barred_in. -/
namespace Q
open PySem L2 Y
-- the head of a wp, unfolded, through tests that are told
local macro_rules | `(tactic| subst_eqs) => `(tactic| ((with_reducible conv => whnf); repeat ((with_reducible first | refine bT rfl ?_ | refine bF rfl ?_ | refine dT rfl ?_ | refine dF rfl ?_ | refine bF (nT rfl) ?_ | refine bT (nF rfl) ?_); (with_reducible conv => whnf))))
theorem pts_len (n : Int) : (pts n).length = n.toNat := by
  unfold pts
  rw [List.length_map, List.length_range]
theorem p_check_hanging : PP fs_check_hanging w_check_hanging ["points", "pairs", "seen", "away", "point"] := by
  rintro ds Q ex ⟨n, l, rfl, h1, h2, hr, hc, q⟩
  show w_check_hanging _ [some (.dat (.int n) false), some (.dat (arD l) false), none, none, none]
  subst_eqs
  refine ⟨n, l, rfl, h1, h2, hr, fun kvs fr hk => ?_⟩
  subst_eqs
  refine ⟨⟨by decide, by decide, by omega, by omega⟩, ?_, ?_⟩
  · refine size_ok ?_
    rw [rng_pts, List.length_map, pts_len]
    omega
  · refine lc_filS (pts n) (fun k => (.int k, true)) (fun k => false) .int dep0 (fun k hkp KT KF kk => ?_) ?_ (rng_pts n)
    · have hkr := pts_mem.mp hkp
      have hs : (lookD kvs (.inl k)).isSome = true := (hk k).mpr (hc k hkr.1 hkr.2)
      subst_eqs
      refine bF (nT hs) ?_
      exact kk _ (by rfl)
    · rw [List.filter_eq_nil_iff.mpr fun _ _ => Bool.false_ne_true]
      subst_eqs
      refine ⟨size_ok (by simp), ?_⟩
      subst_eqs
      refine ⟨⟨okD_in [], okD_in []⟩, ?_⟩
      have e : (pd (D.lst (List.map D.int []))).eqv (pd (D.lst (List.map (fun x : D × Bool => x.1) []))) = true := eqv_nil []
      rw [e]
      exact q
/-! ### barred_in -/
abbrev wEnds : WE := wLc (wItL (wLook 2)) (wName 4) (wTst (wOp kEq (wLc (wItL (wLook 1)) (wTgt (wgCons (wName 5) (wgCons (wName 6) (wgNil)))) (wAnd (wTst (wOp kEq (wVar 5) (wVar 4))) (wTst (wIn (wVar 6) (wLook 2)))) (wVar 6) [5, 6]) (wLst (wNil)))) (wVar 4) [4]
theorem lens {α : Type} (l : List α) (g : α → D) : (l.map g).length = l.length := List.length_map ..
theorem ends_of {n : Int} {l : Ar} {left : List Int} {b3 : Option Sl} {ex : EX} {Q : D → Bool → En → Prop} (hl : l.length ≤ 100) (hf : left.length ≤ 100)
    (q : Q (inD (endsOf l left)) true [some (.dat (.int n) false), some (.dat (arD l) false), some (.dat (inD left) true), b3, none, none, none]) :
    wEnds ex [some (.dat (.int n) false), some (.dat (arD l) false), some (.dat (inD left) true), b3, none, none, none] Q := by
  subst_eqs
  refine ⟨size_ok (by simp; omega), ?_⟩
  refine lc_filS left (fun k => (.int k, true)) (fun k => decide (l.filter (fun a => decide (a.1 = k ∧ a.2 ∈ left)) = [])) .int dep0 (fun k hk KT KF kk => ?_) q (List.map_map ..)
  subst_eqs
  refine ⟨size_ok (by simp; omega), ?_⟩
  refine lc_filS l (fun a => (prD a, false)) (fun a => decide (a.1 = k ∧ a.2 ∈ left)) (fun a => .int a.2) dep0 (fun a ha KT2 KF2 kk2 => ?_) ?_ (List.map_map ..)
  · obtain ⟨t, h⟩ := a
    subst_eqs
    by_cases e1 : t = k
    · refine bT (yT e1) ?_
      subst_eqs
      refine ⟨⟨rfl, okD_in _⟩, ?_⟩
      rw [any_in]
      subst_eqs
      by_cases e2 : h ∈ left
      · refine bT (yT e2) ?_
        rw [if_pos (decide_eq_true ⟨e1, e2⟩)] at kk2
        subst_eqs
        exact kk2 _ (by rfl)
      · refine bF (yF e2) ?_
        rw [if_neg (by simp [e2])] at kk2
        exact kk2 _ (by rfl)
    · refine bF (yF e1) ?_
      subst_eqs
      rw [if_neg (by simp [e1])] at kk2
      exact kk2 _ (by rfl)
  · subst_eqs
    refine ⟨size_ok (by simp), ?_⟩
    subst_eqs
    have em : (l.filter fun a => decide (a.1 = k ∧ a.2 ∈ left)).map (fun a => D.int a.2) = ((l.filter fun a => decide (a.1 = k ∧ a.2 ∈ left)).map (·.2)).map .int := by rw [List.map_map]; rfl
    rw [em]
    refine ⟨⟨okD_in _, okD_in []⟩, ?_⟩
    rw [show (pd (D.lst (((l.filter fun a => decide (a.1 = k ∧ a.2 ∈ left)).map (·.2)).map .int))).eqv (pd (D.lst (List.map (fun x : D × Bool => x.1) []))) = decide ((l.filter fun a => decide (a.1 = k ∧ a.2 ∈ left)).map (·.2) = []) from eqv_nil _]
    by_cases e : l.filter (fun a => decide (a.1 = k ∧ a.2 ∈ left)) = []
    · refine bT (decide_eq_true (by rw [e]; rfl)) ?_
      rw [if_pos (decide_eq_true e)] at kk
      subst_eqs
      exact kk _ (by rfl)
    · refine bF (decide_eq_false (by simpa using e)) ?_
      rw [if_neg (by simpa using e)] at kk
      exact kk _ (by rfl)
theorem rg_pts (n : Int) : rgD 1 (n + 1 - 1).toNat = (pts n).map .int := by
  unfold rgD pts
  rw [List.map_map, Int.add_sub_cancel]
  rfl
theorem less_left (l : Ar) (left : List Int) (e : endsOf l left ≠ []) : (left.filter fun k => decide (k ∉ endsOf l left)).length < left.length := by
  obtain ⟨k, hk⟩ := List.exists_mem_of_ne_nil _ e
  have hk2 : k ∈ left := (List.mem_filter.mp hk).1
  refine Nat.lt_of_le_of_ne (List.length_filter_le ..) fun z => ?_
  have := List.length_filter_eq_length_iff.mp z k hk2
  simp at this
  exact this hk
theorem brdF_more (l : Ar) : ∀ (m : Nat) (left : List Int), left.length ≤ m → brdF l (m + 1) left = brdF l m left
  | 0, left, h => by
    have e : left = [] := List.eq_nil_of_length_eq_zero (by omega)
    subst e
    rfl
  | m + 1, left, h => by
    show (if endsOf l left = [] then left else brdF l (m + 1) _) = (if endsOf l left = [] then left else brdF l m _)
    by_cases e : endsOf l left = []
    · rw [if_pos e, if_pos e]
    · rw [if_neg e, if_neg e]
      refine brdF_more l m _ ?_
      have := less_left l left e
      omega
abbrev wTailB : WS := wSeq (wWhile (wTst (wOp kNe (wVar 3) (wLst (wNil)))) (wSeq (wSet 2 (wLc (wItL (wLook 2)) (wName 4) (wTst (wNotIn (wVar 4) (wLook 3))) (wVar 4) [4])) (wSet 3 wEnds))) (wRet (wVar 2))
theorem p_barred_in : PP fs_barred_in w_barred_in ["points", "arrows", "left", "ends", "point", "tail", "head"] := by
  rintro ds Q ex ⟨n, l, rfl, h1, h2, hl, q⟩
  show w_barred_in _ [some (.dat (.int n) false), some (.dat (arD l) false), none, none, none, none, none]
  subst_eqs
  refine ⟨⟨by decide, by decide, by omega, by omega, by omega⟩, ?_⟩
  rw [rg_pts]
  have pl := pts_len n
  refine ends_of (ex := ex) (left := pts n) (Q := fun d fr Γ' => wTailB { nx := fun x => Q D.non true, rt := fun d fr x => Q d fr, xe := ex } (st Γ' 3 (some (.dat d fr)))) hl (by omega) ?_
  subst_eqs
  refine ⟨fun m Γ => ∃ left f3, Γ = [some (.dat (.int n) false), some (.dat (arD l) false), some (.dat (inD left) true), some (.dat (inD (endsOf l left)) f3), none, none, none] ∧ left.length ≤ m ∧ m ≤ 100 ∧ brdF l m left = brd n l, ⟨n.toNat, pts n, true, rfl, by omega, by omega, rfl⟩, ?_⟩
  rintro m Γ ⟨left, f3, rfl, hm, hm2, hb⟩
  subst_eqs
  refine ⟨size_ok (by simp), ?_⟩
  subst_eqs
  refine ⟨⟨okD_in _, okD_in []⟩, ?_⟩
  rw [show (pd (D.lst ((endsOf l left).map D.int))).eqv (pd (D.lst (List.map (fun x : D × Bool => x.1) []))) = decide (endsOf l left = []) from eqv_nil _]
  by_cases e : endsOf l left = []
  · refine bF (nT (decide_eq_true e)) ?_
    subst_eqs
    have eb : brd n l = left := by
      rw [← hb]
      cases m with
      | zero => rfl
      | succ m => exact if_pos e
    rw [eb] at q
    exact q
  · refine bT (nF (decide_eq_false e)) ?_
    have lt := less_left l left e
    subst_eqs
    refine ⟨size_ok (by simp; omega), ?_⟩
    refine lc_filS left (fun k => (.int k, true)) (fun k => decide (k ∉ endsOf l left)) .int dep0 (fun k hk KT KF kk => ?_) ?_ (List.map_map ..)
    · subst_eqs
      refine ⟨⟨rfl, okD_in _⟩, ?_⟩
      rw [any_in]
      subst_eqs
      by_cases ek : k ∈ endsOf l left
      · refine bF (nT (decide_eq_true ek)) ?_
        rw [if_neg (by simpa using ek)] at kk
        exact kk _ (by rfl)
      · refine bT (nF (decide_eq_false ek)) ?_
        rw [if_pos (decide_eq_true ek)] at kk
        exact kk _ (by rfl)
    · refine ends_of (ex := ex) (left := left.filter fun k => decide (k ∉ endsOf l left)) (Q := fun d fr Γ2 => ∃ m', m' < m ∧ ∃ left f3, st Γ2 3 (some (.dat d fr)) = [some (.dat (.int n) false), some (.dat (arD l) false), some (.dat (inD left) true), some (.dat (inD (endsOf l left)) f3), none, none, none] ∧ left.length ≤ m' ∧ m' ≤ 100 ∧ brdF l m' left = brd n l) hl (by omega) ?_
      refine ⟨m - 1, by omega, _, true, rfl, by omega, by omega, ?_⟩
      rw [← hb]
      obtain ⟨m', rfl⟩ : ∃ m', m = m' + 1 := ⟨m - 1, by omega⟩
      exact (if_neg e).symm
end Q

/-! Q, part 9: the law's defs: draws, next, shuffled, may, turned. -/
namespace Q
open PySem L2 Y
-- the head of a wp, unfolded, through tests that are told
local macro_rules | `(tactic| subst_eqs) => `(tactic| ((with_reducible conv => whnf); repeat ((with_reducible first | refine bT rfl ?_ | refine bF rfl ?_ | refine dT rfl ?_ | refine dF rfl ?_ | refine bF (nT rfl) ?_ | refine bT (nF rfl) ?_); (with_reducible conv => whnf))))
abbrev PM (fs : FSM) (w : WS) (N : List Str) : Prop := ∀ os ds Q, fs os ds Q → w { nx := fun Γ => inoQ Γ fun o => Q o .non true, rt := fun d fr Γ => inoQ Γ fun o => Q o d fr } (startM N os ds)
def Bd (A : Int) (i : Int) : Prop := 0 ≤ i ∧ i < A
theorem Bd.mulW {i j A B : Int} (hi : Bd A i) (hj : Bd B j) (hA : A ≤ 2 ^ 200 := by decide) (hB : B ≤ 2 ^ 200 := by decide) : CMulW i j := by
  unfold Bd at hi hj
  exact wide_mul (a := 200) (b := 200) (by omega) (by omega) (by decide) (by decide) (by decide)
theorem Bd.mul {i j A B : Int} (hi : Bd A i) (hj : Bd B j) : Bd (A * B) (i * j) :=
  ⟨Int.mul_nonneg hi.1 hj.1, Int.lt_of_le_of_lt (Int.mul_le_mul_of_nonneg_left (Int.le_of_lt hj.2) hi.1) (Int.mul_lt_mul_of_pos_right hi.2 (Int.lt_of_le_of_lt hj.1 hj.2))⟩
theorem Bd.add {i j A B : Int} (hi : Bd A i) (hj : Bd B j) : Bd (A + B) (i + j) := by
  unfold Bd at *
  omega
theorem Bd.of {i A : Int} (h : 0 ≤ i) (k : i < A) : Bd A i := ⟨h, k⟩
theorem Bd.mod (i : Int) {A : Int} (h : 0 < A) : Bd A (i % A) := ⟨Int.emod_nonneg _ (Int.ne_of_gt h), Int.emod_lt_of_pos _ h⟩
theorem Bd.up {i A B : Int} (hi : Bd A i) (h : A ≤ B) : Bd B i := ⟨hi.1, Int.lt_of_lt_of_le hi.2 h⟩
theorem p__law_draws : PP fs__law_draws w__law_draws ["_law_cell"] := by
  rintro ds Q ex ⟨c, rfl, q⟩
  show w__law_draws _ [some (.dat (.int c) false)]
  subst_eqs
  refine ⟨⟨by decide, by decide +kernel⟩, ?_⟩
  subst_eqs
  refine ⟨⟨by decide, by decide +kernel⟩, ?_⟩
  subst_eqs
  refine ⟨⟨by decide, by decide +kernel⟩, ?_⟩
  subst_eqs
  have e : (((10 : Int) ^ (60 : Int).toNat) ^ (60 : Int).toNat) ^ (4 : Int).toNat = 10 ^ 14400 := by
    show ((10 ^ 60) ^ 60) ^ 4 = _
    rw [← Int.pow_mul, ← Int.pow_mul]
  have p : (0 : Int) < 10 ^ 14400 := Int.pow_pos (by decide)
  rw [e]
  refine ⟨p, ?_⟩
  subst_eqs
  refine ⟨⟨by decide, by decide +kernel⟩, ?_⟩
  subst_eqs
  refine ⟨size_ok (by simp), ?_⟩
  exact q _ ⟨_, _, _, rfl, Int.emod_nonneg _ (Int.ne_of_gt p), Int.emod_lt_of_pos _ p, by decide, by decide⟩
theorem p__law_next : PM fs__law_next w__law_next ["_law_draws_here", "_law_k", "_law_drawn"] := by
  rintro os ds Q ⟨k, rfl, ⟨a, b, c, rfl, a0, a1, b0, b1⟩, k1, q⟩
  show w__law_next _ [some (.ino (.lst [.int a, .int b, .bl c])), none, none]
  subst_eqs
  rw [at1]
  subst_eqs
  refine ⟨⟨_, rfl⟩, ?_⟩
  subst_eqs
  rw [show ixN [D.int a, D.int b, D.bl c].length 1 = some 1 from rfl]
  subst_eqs
  rw [show [D.int a, D.int b, D.bl c].set 1 (D.int (b + 1)) = [D.int a, D.int (b + 1), D.bl c] from rfl, at1]
  subst_eqs
  rw [show atI [D.int a, D.int (b + 1), D.bl c] 2 = some (.bl c) from rfl]
  cases c with
  | true =>
    subst_eqs
    rw [at0]
    subst_eqs
    refine ⟨⟨by decide, by decide +kernel⟩, ?_⟩
    subst_eqs
    refine ⟨(by decide : (0 : Int) < _), ?_⟩
    subst_eqs
    rw [at0]
    subst_eqs
    refine ⟨⟨by decide, by decide +kernel⟩, ?_⟩
    subst_eqs
    refine ⟨⟨by decide, by decide +kernel⟩, ?_⟩
    subst_eqs
    refine ⟨⟨_, rfl⟩, ?_⟩
    subst_eqs
    rw [show ixN [D.int a, D.int (b + 1), D.bl true].length 0 = some 0 from rfl]
    subst_eqs
    refine ⟨rfl, q _ _ ⟨_, _, _, rfl, ?_, ?_, ?_, ?_⟩⟩
    · exact Int.ediv_nonneg a0 (by decide)
    · exact Int.lt_of_le_of_lt (Int.ediv_le_self _ a0) a1
    · omega
    · omega
  | false =>
    subst_eqs
    rw [at0]
    subst_eqs
    have hm : ∀ A : Int, 0 < A → (fun _ j : Int => 0 < j) a A := fun _ h => h
    have b1 : Bd 2000000000 (b + 1) := .of (by omega) (by omega)
    have b2 : Bd 1000003 (a % 1000003) := .mod a (by decide)
    have b3 := b1.mul b1
    have b4 : Bd 7920 7919 := .of (by decide) (by decide)
    have b5 := b3.mul b4
    have b6 := b2.add b5
    have b7 := b6.add b1
    have b8 : Bd 48272 48271 := .of (by decide) (by decide)
    refine ⟨(by decide : (0 : Int) < _), ?_⟩
    subst_eqs
    refine ⟨b1.mulW b1, ?_⟩
    subst_eqs
    refine ⟨b3.mulW b4, ?_⟩
    subst_eqs
    refine ⟨b7.mulW b8, ?_⟩
    subst_eqs
    refine ⟨(by decide : (0 : Int) < _), ?_⟩
    subst_eqs
    have c1 : ∀ z : Int, Bd 2147483629 (z % 2147483629) := fun z => .mod z (by decide)
    refine ⟨(c1 _).mulW (c1 _), ?_⟩
    subst_eqs
    refine ⟨(by decide : (0 : Int) < _), ?_⟩
    subst_eqs
    have c2 : ∀ z : Int, Bd 2147483587 (z % 2147483587) := fun z => .mod z (by decide)
    have c3 : ∀ z : Int, Bd 2147483590 (z % 2147483587 + 2) := fun z => ((c2 z).add (.of (by decide) (by decide) : Bd 3 2))
    refine ⟨(c2 _).mulW (c3 _), ?_⟩
    subst_eqs
    refine ⟨(by decide : (0 : Int) < _), ?_⟩
    subst_eqs
    refine ⟨⟨by decide, by decide +kernel⟩, ?_⟩
    subst_eqs
    exact ⟨rfl, q _ _ ⟨_, _, _, rfl, a0, a1, by omega, by omega⟩⟩
theorem p__law_may : PP fs__law_may w__law_may ["_law_size", "_law_sides_here", "_law_tails", "_law_tail", "_law_head", "_law_spot"] := by
  rintro ds Q ex ⟨n, l, rfl, h1, h2, hl, q⟩
  show w__law_may _ [some (.dat (.int n) false), some (.dat (arD l) false), none, none, none, none]
  subst_eqs
  refine ⟨size_ok (by simp; omega), ?_⟩
  refine lc_mapS l (fun a => (prD a, false)) (fun a => .int a.1) dep0 (fun a ha KT KF k => ?_) ?_ (List.map_map ..)
  · obtain ⟨t, h⟩ := a
    subst_eqs
    exact k _ (by rfl)
  · subst_eqs
    have em : l.map (fun a => D.int a.1) = (l.map (·.1)).map .int := by rw [List.map_map]; rfl
    rw [em]
    refine ⟨⟨by decide, by decide, by omega, by omega⟩, ?_, ?_⟩
    · refine size_ok ?_
      rw [rng_pts, List.length_map, pts_len]
      omega
    · refine lc_filS (pts n) (fun k => (.int k, true)) (fun k => decide (k ∉ l.map fun a : Int × Int => a.1)) .int dep0 (fun k hk KT KF kk => ?_) q (rng_pts n)
      subst_eqs
      refine ⟨⟨rfl, okD_in _⟩, ?_⟩
      rw [any_in]
      subst_eqs
      by_cases e : k ∈ l.map (·.1)
      · refine bF (nT (yT e)) ?_
        rw [if_neg (by simpa using e)] at kk
        exact kk _ (by rfl)
      · refine bT (nF (yF e)) ?_
        rw [if_pos (decide_eq_true e)] at kk
        exact kk _ (by rfl)
theorem p__law_turned : PP fs__law_turned w__law_turned ["_law_sides_here", "_law_spot", "_law_tail", "_law_head"] := by
  rintro ds Q ex ⟨l, p, rfl, hl, q⟩
  show w__law_turned _ [some (.dat (arD l) false), some (.dat (.int p) false), none, none]
  subst_eqs
  refine ⟨size_ok (by simp; omega), ?_⟩
  refine lc_mapS l (fun a => (prD a, false)) (fun a => prD (if a.2 = p then (a.2, a.1) else a)) dep0 (fun a ha KT KF k => ?_) ?_ (List.map_map ..)
  · obtain ⟨t, h⟩ := a
    subst_eqs
    refine bB (fun e => ?_) fun e => ?_
    · subst_eqs
      have e' : h = p := of_decide_eq_true e
      refine ⟨size_ok (by simp), ?_⟩
      rw [if_pos e'] at k
      exact k _ (by rfl)
    · subst_eqs
      have e' : ¬ h = p := of_decide_eq_false e
      refine ⟨size_ok (by simp), ?_⟩
      rw [if_neg e'] at k
      exact k _ (by rfl)
  · have ee : (fun a : Int × Int => prD (if a.2 = p then (a.2, a.1) else a)) = prD ∘ (fun a => if a.2 = p then (a.2, a.1) else a) := rfl
    rw [ee, ← List.map_map]
    exact q
end Q

/-! Q, part 10: shuffled. -/
namespace Q
open PySem L2 Y
-- the head of a wp, unfolded, through tests that are told
local macro_rules | `(tactic| subst_eqs) => `(tactic| ((with_reducible conv => whnf); repeat ((with_reducible first | refine bT rfl ?_ | refine bF rfl ?_ | refine dT rfl ?_ | refine dF rfl ?_ | refine bF (nT rfl) ?_ | refine bT (nF rfl) ?_); (with_reducible conv => whnf))))
theorem plainAll_of : ∀ {l : List D}, (∀ d ∈ l, Y.plain d = true) → plainAll l = true
  | [], _ => rfl
  | a :: l, h => by
    unfold plainAll
    rw [h a List.mem_cons_self, plainAll_of fun d hd => h d (List.mem_cons_of_mem _ hd)]
    rfl
theorem depAll_le {n : Nat} : ∀ {l : List D}, depAll l ≤ n ↔ ∀ d ∈ l, dep d ≤ n
  | [] => by
    unfold depAll
    simp
  | a :: l => by
    unfold depAll
    have ih := depAll_le (n := n) (l := l)
    constructor
    · intro h d hd
      rcases List.mem_cons.mp hd with e | hd
      · rw [e]; omega
      · exact ih.mp (by omega) d hd
    · intro h
      have h1 := h a List.mem_cons_self
      have h2 := ih.mpr fun d hd => h d (List.mem_cons_of_mem _ hd)
      omega
theorem dep_lst (l : List D) : dep (.lst l) = depAll l + 1 := by
  show dep (.lst l) = _
  unfold dep
  rfl
theorem okD_perm {told left xs : List D} (hp : plainAll xs = true) (hd : dep (.lst xs) ≤ 60) (pm : (told ++ left).Perm xs) : okD (.lst left) = true := by
  have sub : ∀ d ∈ left, d ∈ xs := fun d h => pm.subset (List.mem_append_right _ h)
  rw [dep_lst] at hd
  have h2 := depAll_le.mp (show depAll xs ≤ 59 by omega)
  have h3 := depAll_le.mpr fun d h => h2 d (sub d h)
  unfold okD
  rw [Bool.and_eq_true]
  refine ⟨by unfold Y.plain; exact plainAll_of fun d h => plainAll_mem hp d (sub d h), decide_eq_true ?_⟩
  rw [dep_lst]
  omega
theorem eqvD_nil (l : List D) : (pd (D.lst l)).eqv (pd (D.lst (List.map (fun x : D × Bool => x.1) []))) = decide (l = []) := by
  cases l with
  | nil =>
    unfold pd pdAll
    simp [PyData.eqv, PyData.eqvAll]
  | cons a r =>
    rw [List.map_nil]
    unfold pd pdAll
    simp [PyData.eqv, PyData.eqvAll]
theorem Dr.flt {k : Nat} {os : List D} (h : Dr k os) : os.all flt = true := by
  obtain ⟨a, b, c, rfl, _⟩ := h
  rfl
theorem Dr.up {k j : Nat} {os : List D} (h : Dr k os) (l : k ≤ j) : Dr j os := by
  obtain ⟨a, b, c, e, h1, h2, h3, h4⟩ := h
  exact ⟨a, b, c, e, h1, h2, h3, by omega⟩
theorem seq_at {i : Int} {n : Nat} (h0 : 0 ≤ i) (h1 : i < n) : seqIndex? i n = some i.toNat := by
  unfold seqIndex?
  have h : ¬ i < 0 := by omega
  simp [h, h0, h1]
theorem era_perm {l : List D} {j : Nat} (h : j < l.length) : (l[j] :: l.eraseIdx j).Perm l := by
  rw [List.eraseIdx_eq_take_drop_succ]
  refine (List.perm_middle).symm.trans ?_
  rw [List.getElem_cons_drop, List.take_append_drop]
theorem p__law_shuffled : PM fs__law_shuffled w__law_shuffled ["_law_draws_here", "_law_things", "_law_left", "_law_told"] := by
  rintro os ds Q ⟨k, xs, rfl, hd, hx, hk, hp, hdp, q⟩
  show w__law_shuffled _ [some (.ino (.lst os)), some (.dat (.lst xs) false), none, none]
  subst_eqs
  refine ⟨size_ok (by simp), ?_⟩
  subst_eqs
  refine ⟨fun m Γ => ∃ os' left told f g, Γ = [some (.ino (.lst os')), some (.dat (.lst xs) false), some (.own (.lst left) f), some (.own (.lst told) g)] ∧ (told ++ left).Perm xs ∧ Dr (k + told.length) os' ∧ m = left.length, ⟨_, os, xs, [], _, _, rfl, .refl _, hd, rfl⟩, ?_⟩
  rintro m Γ ⟨os', left, told, f, g, rfl, pm, dr, em⟩
  have len := pm.length_eq
  rw [List.length_append] at len
  subst_eqs
  refine ⟨size_ok (by simp), ?_⟩
  subst_eqs
  refine ⟨⟨okD_perm hp hdp pm, okD_in []⟩, ?_⟩
  rw [eqvD_nil]
  by_cases e : left = []
  · refine bF (nT (decide_eq_true e)) ?_
    subst_eqs
    subst e
    rw [List.append_nil] at pm
    exact ⟨dr.flt, q _ _ _ (dr.up (by rw [pm.length_eq]; omega)) pm⟩
  · refine bT (nF (decide_eq_false e)) ?_
    have lp : 0 < left.length := List.length_pos_iff.mpr e
    subst_eqs
    refine ⟨trivial, ?_⟩
    subst_eqs
    refine ⟨trivial, ?_⟩
    subst_eqs
    refine ⟨trivial, ?_⟩
    subst_eqs
    refine ⟨dr.flt, k + told.length, rfl, dr, by omega, fun os'' v dr' => ?_⟩
    subst_eqs
    have bm := Bd.mod v (A := (left.length : Int)) (by omega)
    have jl : (v % (left.length : Int)).toNat < left.length := by
      have := bm.1
      have := bm.2
      omega
    refine ⟨(by omega : (0 : Int) < left.length), ?_⟩
    subst_eqs
    refine ⟨⟨by have := bm.1; omega, by have := bm.2; omega⟩, ?_⟩
    subst_eqs
    rw [seq_at bm.1 bm.2]
    subst_eqs
    rw [List.getElem?_eq_getElem jl]
    subst_eqs
    refine ⟨size_lt (by omega), ?_⟩
    refine ⟨_, ?_, os'', _, _, _, _, rfl, ?_, ?_, rfl⟩
    · rw [List.length_eraseIdx_of_lt jl]
      omega
    · rw [List.append_assoc]
      exact (List.Perm.append_left told (era_perm jl)).trans pm
    · rw [List.length_append, List.length_singleton]
      exact dr'
end Q

/-! Q, part 11: bars. -/
namespace Q
open PySem L2 Y
-- the head of a wp, unfolded, through tests that are told
local macro_rules | `(tactic| subst_eqs) => `(tactic| ((with_reducible conv => whnf); repeat ((with_reducible first | refine bT rfl ?_ | refine bF rfl ?_ | refine dT rfl ?_ | refine dF rfl ?_ | refine bF (nT rfl) ?_ | refine bT (nF rfl) ?_); (with_reducible conv => whnf))))
theorem Rch.trans {l : Ar} {a b c : Int} (h : Rch l a b) (k : Rch l b c) : Rch l a c := by
  induction k with
  | refl => exact h
  | step _ e ih => exact .step ih e
theorem Rch.symm {l : Ar} {a b : Int} (h : Rch l a b) : Rch l b a := by
  induction h with
  | refl => exact .refl _
  | step _ e ih => exact (Rch.step (.refl _) e.symm).trans ih
theorem Rch.mono {l l' : Ar} (s : ∀ p ∈ l, p ∈ l') {a b : Int} (h : Rch l a b) : Rch l' a b := by
  induction h with
  | refl => exact .refl _
  | step _ e ih => exact .step ih (e.imp (s _) (s _))
theorem map_id_of {β : Type} (f : β → β) : ∀ l : List β, (∀ x ∈ l, f x = x) → l.map f = l
  | [], _ => rfl
  | x :: l, h => by rw [List.map_cons, h x List.mem_cons_self, map_id_of f l fun y hy => h y (List.mem_cons_of_mem _ hy)]
theorem unmap {α β : Type} {g : α → β} (f : β → α) (hf : ∀ a, f (g a) = a) {ys : List β} {l : List α} (h : ys.Perm (l.map g)) : ∃ l' : List α, ys = l'.map g ∧ l'.Perm l := by
  refine ⟨ys.map f, ?_, ?_⟩
  · rw [List.map_map]
    refine (map_id_of _ ys fun y hy => ?_).symm
    obtain ⟨a, _, rfl⟩ := List.mem_map.mp (h.subset hy)
    show g (f (g a)) = g a
    rw [hf]
  · have z := h.map f
    rw [List.map_map] at z
    have e : (f ∘ g) = id := funext hf
    rwa [e, List.map_id] at z
def unI : D → Int
  | .int i => i
  | _ => 0
def unP : D → Int × Int
  | .lst [.int a, .int b] => (a, b)
  | _ => (0, 0)
theorem plain_ints (l : List Int) : plainAll (l.map .int) = true := plainAll_of fun d hd => by
  obtain ⟨a, _, rfl⟩ := List.mem_map.mp hd
  rfl
theorem dep_ints (l : List Int) : dep (inD l) ≤ 1 := by
  rw [dep_lst]
  have : depAll (l.map .int) ≤ 0 := depAll_le.mpr fun d hd => by
    obtain ⟨a, _, rfl⟩ := List.mem_map.mp hd
    exact Nat.le_refl 0
  omega
theorem plain_prs (l : Ar) : plainAll (l.map prD) = true := plainAll_of fun d hd => by
  obtain ⟨a, _, rfl⟩ := List.mem_map.mp hd
  rfl
theorem dep_pr (p : Int × Int) : dep (prD p) ≤ 1 := dep_ints [p.1, p.2]
theorem dep_prs (l : Ar) : dep (arD l) ≤ 2 := by
  rw [dep_lst]
  have : depAll (l.map prD) ≤ 1 := depAll_le.mpr fun d hd => by
    obtain ⟨a, _, rfl⟩ := List.mem_map.mp hd
    exact dep_pr a
  omega
theorem okD_ar (l : Ar) : okD (arD l) = true := by
  unfold okD
  rw [Bool.and_eq_true]
  exact ⟨by unfold Y.plain; exact plain_prs l, decide_eq_true (Nat.le_trans (dep_prs l) (by decide))⟩
theorem eqv_pr (p q : Int × Int) : (pd (prD p)).eqv (pd (prD q)) = decide (p = q) := by
  obtain ⟨a, b⟩ := p
  obtain ⟨c, d⟩ := q
  unfold pd
  simp [PyData.eqv, PyData.eqvAll, pdAll, pd]
  rfl
theorem any_pr (l : Ar) (p : Int × Int) : ((l.map prD).any fun z => (pd z).eqv (pd (prD p))) = decide (p ∈ l) := by
  induction l with
  | nil => simp
  | cons a l ih =>
    rw [List.map_cons, List.any_cons, ih, eqv_pr]
    by_cases h : a = p
    · subst h; simp
    · have h2 : ¬ p = a := fun z => h z.symm
      simp [h, h2]
theorem ix_ok {n : Nat} {i : Int} (h0 : 0 ≤ i) (h1 : i < n) : ixN n i = some i.toNat := by
  unfold ixN
  rw [if_pos h0]
  first | rw [if_pos h1] | simp [h1]
theorem atI_int {nm : List Int} {i : Int} (h0 : 0 ≤ i) (h1 : i < nm.length) : ∃ y, atI (nm.map D.int) i = some (.int y) ∧ nm[i.toNat]? = some y := by
  have hl : i.toNat < nm.length := by omega
  refine ⟨nm[i.toNat], ?_, List.getElem?_eq_getElem hl⟩
  unfold atI
  rw [List.length_map, ix_ok h0 h1]
  show (nm.map D.int)[i.toNat]? = _
  rw [List.getElem?_map, List.getElem?_eq_getElem hl]
  rfl
/-- a tree that grows along its names -/
structure Tr (nm : List Int) (j : Nat) (l : Ar) : Prop where
  len : l.length = j
  ed : ∀ p ∈ l, ∃ a b, a ≤ j ∧ b ≤ j ∧ a ≠ b ∧ nm[a]? = some p.1 ∧ nm[b]? = some p.2
  dst : l.Pairwise fun p q => ends2 p ≠ ends2 q
  con : ∀ a, a ≤ j → ∀ x y, nm[0]? = some x → nm[a]? = some y → Rch l x y
theorem Tr.zero (nm : List Int) : Tr nm 0 [] := ⟨rfl, by simp, by simp, fun a ha x y hx hy => by
  have : a = 0 := by omega
  subst this
  rw [hx] at hy
  cases hy
  exact .refl _⟩
theorem ends2_eq {p q : Int × Int} (h : ends2 p = ends2 q) : (p.1 = q.1 ∧ p.2 = q.2) ∨ (p.1 = q.2 ∧ p.2 = q.1) := by
  unfold ends2 at h
  have h1 := congrArg Prod.fst h
  have h2 := congrArg Prod.snd h
  simp only at h1 h2
  omega
theorem nodup_ix {l : List Int} (nd : l.Nodup) {a b : Nat} {x : Int} (ha : l[a]? = some x) (hb : l[b]? = some x) : a = b := by
  obtain ⟨h1, e1⟩ := List.getElem?_eq_some_iff.mp ha
  obtain ⟨h2, e2⟩ := List.getElem?_eq_some_iff.mp hb
  have pw := List.pairwise_iff_getElem.mp nd
  rcases Nat.lt_trichotomy a b with lt | eq | lt
  · exact absurd (e1.trans e2.symm) (pw a b h1 h2 lt)
  · exact eq
  · exact absurd (e2.trans e1.symm) (pw b a h2 h1 lt)
theorem Tr.grow {nm : List Int} {j : Nat} {l : Ar} (t : Tr nm j l) (nd : nm.Nodup) {x y : Int} {b : Nat} (hx : nm[j + 1]? = some x) (hb : b ≤ j) (hy : nm[b]? = some y) : Tr nm (j + 1) (l ++ [(x, y)]) where
  len := by rw [List.length_append, t.len]; rfl
  ed := fun p hp => by
    rcases List.mem_append.mp hp with h | h
    · obtain ⟨a, b, h1, h2, h3⟩ := t.ed p h
      exact ⟨a, b, by omega, by omega, h3⟩
    · rw [List.mem_singleton.mp h]
      exact ⟨j + 1, b, by omega, by omega, by omega, hx, hy⟩
  dst := by
    refine List.pairwise_append.mpr ⟨t.dst, by simp, fun p hp q hq => ?_⟩
    rw [List.mem_singleton.mp hq]
    intro e
    obtain ⟨a, c, h1, h2, h3, h4, h5⟩ := t.ed p hp
    rcases ends2_eq e with ⟨e1, e2⟩ | ⟨e1, e2⟩
    · have := nodup_ix nd h4 (by rw [e1]; exact hx)
      omega
    · have := nodup_ix nd h5 (by rw [e2]; exact hx)
      omega
  con := fun a ha u v hu hv => by
    have mono : ∀ p ∈ l, p ∈ l ++ [(x, y)] := fun p hp => List.mem_append_left _ hp
    by_cases e : a = j + 1
    · subst e
      rw [hx] at hv
      cases hv
      exact .step ((t.con b hb u y hu hy).mono mono) (.inr (by simp))
    · exact (t.con a (by omega) u v hu hv).mono mono
theorem pts_nodup (n : Int) : (pts n).Nodup := by
  unfold pts
  refine List.Pairwise.map _ (fun a b (h : a ≠ b) => ?_) List.nodup_range
  omega
theorem Tr.bars {n : Int} {nm : List Int} {l : Ar} (n1 : 1 ≤ n) (n2 : n ≤ 12) (pm : nm.Perm (pts n)) (t : Tr nm (n.toNat - 1) l) : Bars n l where
  len := by rw [t.len]; omega
  rng := fun p hp => by
    obtain ⟨a, b, h1, h2, h3, h4, h5⟩ := t.ed p hp
    refine ⟨pts_mem.mp (pm.subset (List.mem_of_getElem? h4)), pts_mem.mp (pm.subset (List.mem_of_getElem? h5)), fun e => ?_⟩
    rw [e] at h4
    have nd : nm.Nodup := pm.symm.nodup (pts_nodup n)
    exact h3 (nodup_ix nd h4 h5)
  dst := t.dst
  con := fun k h1 h2 => by
    have ln := pm.length_eq
    rw [pts_len] at ln
    have hz : 0 < nm.length := by omega
    have go : ∀ k, 1 ≤ k → k ≤ n → Rch l nm[0] k := fun k h1 h2 => by
      obtain ⟨a, ha, e⟩ := List.getElem_of_mem (pm.symm.subset (pts_mem.mpr ⟨h1, h2⟩))
      exact t.con a (by omega) _ _ (List.getElem?_eq_getElem hz) (by rw [List.getElem?_eq_getElem ha, e])
    exact (go 1 (by omega) n1).symm.trans (go k h1 h2)
theorem range_pre {N a : Nat} {pre r : List Nat} (e : List.range N = pre ++ a :: r) : a = pre.length ∧ pre.length < N := by
  have hl : pre.length < N := by
    have z := congrArg List.length e
    simp at z
    omega
  refine ⟨?_, hl⟩
  have z := congrArg (fun l => l[pre.length]?) e
  simp [hl] at z
  exact z.symm
theorem Bars.grow {n : Int} {l : Ar} (b : Bars n l) {u w : Int} (hu : 1 ≤ u ∧ u ≤ n) (hw : 1 ≤ w ∧ w ≤ n) (ne : u ≠ w) (h1 : (u, w) ∉ l) (h2 : (w, u) ∉ l) (hl : l.length < 30) : Bars n (l ++ [(u, w)]) where
  len := by rw [List.length_append, List.length_singleton]; omega
  rng := fun p hp => by
    rcases List.mem_append.mp hp with h | h
    · exact b.rng p h
    · rw [List.mem_singleton.mp h]
      exact ⟨hu, hw, ne⟩
  dst := by
    refine List.pairwise_append.mpr ⟨b.dst, by simp, fun p hp q hq => ?_⟩
    rw [List.mem_singleton.mp hq]
    intro e
    obtain ⟨p1, p2⟩ := p
    rcases ends2_eq e with ⟨e1, e2⟩ | ⟨e1, e2⟩
    · simp only at e1 e2
      subst e1 e2
      exact h1 hp
    · simp only at e1 e2
      subst e1 e2
      exact h2 hp
  con := fun k k1 k2 => (b.con k k1 k2).mono fun p hp => List.mem_append_left _ hp
theorem Bars.perm {n : Int} {l l' : Ar} (b : Bars n l) (pm : l'.Perm l) : Bars n l' where
  len := by rw [pm.length_eq]; exact b.len
  rng := fun p hp => b.rng p (pm.subset hp)
  dst := pm.symm.pairwise b.dst fun h => h.symm
  con := fun k k1 k2 => (b.con k k1 k2).mono fun p hp => pm.symm.subset hp
theorem ar_snoc (T : Ar) (p : Int × Int) : arD (T ++ [p]) = .lst (T.map prD ++ [prD p]) := by
  unfold arD
  rw [List.map_append]
  rfl
theorem p__law_bars : PM fs__law_bars w__law_bars ["_law_draws_here", "_law_size", "_law_more", "_law_names", "_law_kind", "_law_told", "_law_at", "_law_step", "_law_one", "_law_two"] := by
  rintro os ds Q ⟨k, n, m, rfl, n1, n2, m1, m2, hd, hk, q⟩
  show w__law_bars _ [some (.ino (.lst os)), some (.dat (.int n) false), some (.dat (.int m) false), none, none, none, none, none, none, none]
  have pl := pts_len n
  subst_eqs
  refine ⟨trivial, ?_⟩
  subst_eqs
  refine ⟨⟨by decide, by decide, by omega, by omega, by omega⟩, ?_⟩
  rw [rg_pts]
  subst_eqs
  refine ⟨hd.flt, k, _, rfl, hd, by rw [List.length_map]; omega, by rw [List.length_map]; omega, plain_ints _, Nat.le_trans (dep_ints _) (by decide), fun os1 ys fr hd1 pm => ?_⟩
  obtain ⟨nm, rfl, pm2⟩ := unmap unI (fun _ => rfl) pm
  rw [List.length_map, pl] at hd1
  subst_eqs
  refine ⟨trivial, ?_⟩
  subst_eqs
  refine ⟨hd1.flt, _, rfl, hd1, by omega, fun os2 kd hd2 => ?_⟩
  subst_eqs
  refine ⟨(by decide : (0 : Int) < 4), ?_⟩
  subst_eqs
  refine ⟨size_ok (by simp), ?_⟩
  subst_eqs
  refine ⟨⟨by decide, by decide, by omega, by omega⟩, ?_⟩
  refine ⟨rfl, ?_⟩
  have nd : nm.Nodup := pm2.symm.nodup (pts_nodup n)
  have ln := pm2.length_eq
  rw [pl] at ln
  refine for_pre (List.range (n - 1).toNat) (fun (i : Nat) => (.int (1 + i), true)) (fun pre Γ => ∃ os' T f a6, Γ = [some (.ino (.lst os')), some (.dat (.int n) false), some (.dat (.int m) false), some (.dat (inD nm) fr), some (.dat (.int (kd % 4)) true), some (.own (arD T) f), a6, none, none, none] ∧ Tr nm pre.length T ∧ Dr (k + n.toNat + 1 + pre.length) os') ⟨os2, [], _, _, rfl, .zero nm, hd2⟩ ?_ ?_
  · rintro pre a r Γ N e ⟨os', T, f, a6, rfl, tr, dr⟩ hN
    obtain ⟨ha, hl⟩ := range_pre e
    subst ha
    subst_eqs
    refine ⟨trivial, ?_⟩
    subst_eqs
    obtain ⟨x, ex, gx⟩ := atI_int (nm := nm) (i := 1 + (pre.length : Int)) (by omega) (by omega)
    rw [ex]
    subst_eqs
    refine ⟨trivial, ?_⟩
    subst_eqs
    refine ⟨dr.flt, _, rfl, dr, by omega, fun os3 v hd3 => ?_⟩
    subst_eqs
    refine ⟨(by omega : (0 : Int) < 1 + (pre.length : Int)), ?_⟩
    subst_eqs
    refine ⟨⟨by decide, by decide +kernel⟩, ?_⟩
    subst_eqs
    refine ⟨size_ok (by simp), ?_⟩
    subst_eqs
    have b4 := Bd.mod kd (A := 4) (by decide)
    have bv := Bd.mod v (A := 1 + (pre.length : Int)) (by omega)
    obtain ⟨w, ew, gw⟩ := atI_int (nm := [v % (1 + (pre.length : Int)), 1 + (pre.length : Int) - 1, 0, (1 + (pre.length : Int) - 1) / 2]) (i := kd % 4) b4.1 b4.2
    have bw : 0 ≤ w ∧ w < 1 + (pre.length : Int) := by
      have mw := List.mem_of_getElem? gw
      unfold Bd at bv
      simp only [List.mem_cons, List.not_mem_nil, or_false] at mw
      omega
    have ew' : atI (List.map (fun x : D × Bool => x.1) [(.int (v % (1 + (pre.length : Int))), true), (.int (1 + (pre.length : Int) - 1), true), (.int 0, true), (.int ((1 + (pre.length : Int) - 1) / 2), true)]) (kd % 4) = some (.int w) := ew
    rw [ew']
    subst_eqs
    obtain ⟨y, ey, gy⟩ := atI_int (nm := nm) (i := w) bw.1 (by omega)
    rw [ey]
    subst_eqs
    refine ⟨size_ok (by simp), ?_⟩
    subst_eqs
    have lT := tr.len
    refine ⟨size_lt (by rw [List.length_map]; omega), ?_⟩
    refine hN _ ⟨os3, T ++ [(x, y)], f && frs' [(D.int x, fr || flt (D.int x)), (D.int y, fr || flt (D.int y))], some (.dat (.int (1 + (pre.length : Int))) true), ?_, ?_, ?_⟩
    · rw [ar_snoc]
      rfl
    · rw [List.length_append, List.length_singleton]
      refine tr.grow nd (by rw [← gx]; congr 1; omega) (by omega) gy
    · rw [List.length_append, List.length_singleton]
      exact hd3
  · rintro Γ ⟨os3, T, f, a6, rfl, tr, hd3⟩
    rw [List.length_range] at tr hd3
    have br := Tr.bars n1 n2 pm2 (by rw [show n.toNat - 1 = (n - 1).toNat by omega]; exact tr)
    subst_eqs
    refine ⟨trivial, ?_⟩
    subst_eqs
    refine ⟨hd3.flt, _, rfl, hd3, by omega, fun os4 v hd4 => ?_⟩
    subst_eqs
    refine ⟨size_ok (by simp), ?_⟩
    subst_eqs
    refine ⟨trivial, ?_⟩
    subst_eqs
    refine ⟨hd4.flt, _, rfl, hd4, by omega, fun os5 v2 hd5 => ?_⟩
    subst_eqs
    refine ⟨(by decide : (0 : Int) < 4), ?_⟩
    subst_eqs
    have b4 := Bd.mod v2 (A := 4) (by decide)
    obtain ⟨w, ew, gw⟩ := atI_int (nm := [1, 3, 9, 33]) (i := v2 % 4) b4.1 b4.2
    have bw : 1 ≤ w ∧ w ≤ 33 := by
      have mw := List.mem_of_getElem? gw
      simp only [List.mem_cons, List.not_mem_nil, or_false] at mw
      omega
    have ew' : atI (List.map (fun x : D × Bool => x.1) [(.int 1, true), (.int 3, true), (.int 9, true), (.int 33, true)]) (v2 % 4) = some (.int w) := ew
    rw [ew']
    subst_eqs
    obtain ⟨c, ec, c1, c2⟩ : ∃ c : Int, (if w < m then w else m) = c ∧ 1 ≤ c ∧ c ≤ 33 := ⟨_, rfl, by split <;> omega, by split <;> omega⟩
    rw [ec]
    refine ⟨(by omega : (0 : Int) < c), ?_⟩
    subst_eqs
    have bc := Bd.mod v (A := c) (by omega)
    unfold Bd at bc
    refine ⟨⟨by omega, by omega⟩, ?_⟩
    subst_eqs
    refine ⟨rfl, ?_⟩
    refine for_pre (List.range (v % c).toNat) (fun (i : Nat) => (.int (0 + i), true)) (fun pre Γ => ∃ os' T f a6 a7 a8 a9, Γ = [some (.ino (.lst os')), some (.dat (.int n) false), some (.dat (.int m) false), some (.dat (inD nm) fr), some (.dat (.int (kd % 4)) true), some (.own (arD T) f), a6, a7, a8, a9] ∧ Bars n T ∧ Dr (k + 60 + 2 * pre.length) os') ⟨os5, T, _, _, _, _, _, rfl, br, hd5.up (by simp; omega)⟩ ?_ ?_
    · rintro pre a r Γ N e ⟨os6, T, f, a6, a7, a8, a9, rfl, br, dr⟩ hN
      obtain ⟨ha, hl⟩ := range_pre e
      subst ha
      subst_eqs
      refine ⟨trivial, ?_⟩
      subst_eqs
      refine ⟨dr.flt, _, rfl, dr, by omega, fun os7 x hd7 => ?_⟩
      subst_eqs
      refine ⟨(by omega : (0 : Int) < n), ?_⟩
      subst_eqs
      refine ⟨trivial, ?_⟩
      subst_eqs
      refine ⟨hd7.flt, _, rfl, hd7, by omega, fun os8 y hd8 => ?_⟩
      subst_eqs
      refine ⟨(by omega : (0 : Int) < n), ?_⟩
      have bx := Bd.mod x (A := n) (by omega)
      have by' := Bd.mod y (A := n) (by omega)
      unfold Bd at bx by'
      subst_eqs
      obtain ⟨u, eu⟩ : ∃ u, 1 + x % n = u := ⟨_, rfl⟩
      obtain ⟨w, ew⟩ : ∃ w, 1 + y % n = w := ⟨_, rfl⟩
      rw [eu, ew]
      have keep : ∀ a7 a8 a9, N [some (.ino (.lst os8)), some (.dat (.int n) false), some (.dat (.int m) false), some (.dat (inD nm) fr), some (.dat (.int (kd % 4)) true), some (.own (arD T) f), a6, a7, a8, a9] := fun a7 a8 a9 => hN _ ⟨os8, T, f, a6, a7, a8, a9, rfl, br, hd8.up (by simp; omega)⟩
      by_cases e1 : u = w
      · refine bF (nT (yT e1)) ?_
        subst_eqs
        exact keep _ _ _
      refine bT (nF (yF e1)) ?_
      subst_eqs
      refine ⟨size_ok (by simp), ?_⟩
      subst_eqs
      refine ⟨⟨okD_ar [(u, w)], okD_ar T⟩, ?_⟩
      subst_eqs
      by_cases e2 : (u, w) ∈ T
      · refine bF (nT ((any_pr T (u, w)).trans (yT e2))) ?_
        subst_eqs
        exact keep _ _ _
      refine bT (nF ((any_pr T (u, w)).trans (yF e2))) ?_
      subst_eqs
      refine ⟨size_ok (by simp), ?_⟩
      subst_eqs
      refine ⟨⟨okD_ar [(w, u)], okD_ar T⟩, ?_⟩
      subst_eqs
      by_cases e3 : (w, u) ∈ T
      · refine bF (nT ((any_pr T (w, u)).trans (yT e3))) ?_
        subst_eqs
        exact keep _ _ _
      refine bT (nF ((any_pr T (w, u)).trans (yF e3))) ?_
      subst_eqs
      have lt := List.length_map prD (as := T)
      by_cases e4 : T.length < 30
      · refine bT (decide_eq_true (by rw [lt]; omega) : decide (((T.map prD).length : Int) < 30) = true) ?_
        subst_eqs
        refine ⟨trivial, ?_⟩
        subst_eqs
        refine ⟨size_ok (by simp), ?_⟩
        subst_eqs
        refine ⟨size_lt (by rw [lt]; omega), ?_⟩
        refine hN _ ⟨os8, T ++ [(u, w)], f && (true && (true && true)), a6, some (.dat (.int (0 + (pre.length : Int))) true), some (.dat (.int u) true), some (.dat (.int w) true), ?_, br.grow (by omega) (by omega) e1 e2 e3 e4, hd8.up (by simp; omega)⟩
        rw [ar_snoc]
        rfl
      · refine bF (decide_eq_false (by rw [lt]; omega) : decide (((T.map prD).length : Int) < 30) = false) ?_
        subst_eqs
        exact keep _ _ _
    · rintro Γ ⟨os6, T, f, a6, a7, a8, a9, rfl, br, dr⟩
      rw [List.length_range] at dr
      have := br.len
      subst_eqs
      refine ⟨trivial, ?_⟩
      subst_eqs
      refine ⟨dr.flt, _, _, rfl, dr, by rw [List.length_map]; omega, by rw [List.length_map]; omega, plain_prs T, Nat.le_trans (dep_prs T) (by decide), fun os7 ys fr hd7 pm => ?_⟩
      obtain ⟨T', rfl, pm2⟩ := unmap unP (fun _ => rfl) pm
      rw [List.length_map] at hd7
      subst_eqs
      exact ⟨hd7.flt, q _ _ _ (hd7.up (by omega)) (br.perm pm2)⟩
end Q

/-! Q, part 12: sides. -/
namespace Q
open PySem L2 Y
-- the head of a wp, unfolded, through tests that are told
local macro_rules | `(tactic| subst_eqs) => `(tactic| ((with_reducible conv => whnf); repeat ((with_reducible first | refine bT rfl ?_ | refine bF rfl ?_ | refine dT rfl ?_ | refine dF rfl ?_ | refine bF (nT rfl) ?_ | refine bT (nF rfl) ?_); (with_reducible conv => whnf))))
/-- a comprehension over arrows that turns some, and whose turns change the slots -/
theorem lc_turn {tg : WG} {tt : WT} {te : WE} {vs : List Nat} {dp : Dep} {K : List D → Bool → En → Prop} {src : Int × Int → D × Bool} {I : Nat → En → Prop} (hd : ∀ j Γ, I j Γ → depE Γ dp) :
    ∀ (l : Ar) (Γ : En) (j : Nat) (acc : Ar) (f : Bool) (hs : ∀ a ∈ l, ∀ i Γ (KT : D → Bool → En → Prop) (KF : En → Prop), i < j + l.length → I i Γ → (∀ Γ' q fr, ends2 q = ends2 a → I (i + 1) (rs Γ Γ' vs) → KT (prD q) fr Γ') → tg (src a).1 (src a).2 (wp Γ vs) fun Γ1 => tt ex0 Γ1 fun b Γ2 => ifB b (te ex0 Γ2 KT) (KF Γ2))
      (k : ∀ l' f Γ', l'.map ends2 = l.map ends2 → I (j + l.length) Γ' → K ((acc ++ l').map prD) f Γ') (h : I j Γ), lcGo tg tt te vs dp (l.map src) (acc.map prD) f Γ K
  | [], Γ, j, acc, f, hs, k, h => by
    refine ⟨hd j Γ h, ?_⟩
    have z := k [] f Γ rfl h
    rw [List.append_nil] at z
    exact z
  | a :: l, Γ, j, acc, f, hs, k, h => by
    refine ⟨hd j Γ h, ?_⟩
    refine hs a List.mem_cons_self j Γ _ _ (by rw [List.length_cons]; omega) h fun Γ' q fr e h' => ?_
    have eq : acc.map prD ++ [prD q] = (acc ++ [q]).map prD := by rw [List.map_append]; rfl
    show lcGo tg tt te vs dp (l.map src) (acc.map prD ++ [prD q]) (f && fr) (rs Γ Γ' vs) K
    rw [eq]
    refine lc_turn hd l _ (j + 1) (acc ++ [q]) _ (fun b hb i Γ KT KF hi hI hk => hs b (List.mem_cons_of_mem _ hb) i Γ KT KF (by rw [List.length_cons]; omega) hI hk) (fun l' f Γ2 el hI => ?_) h'
    have z := k (q :: l') f Γ2 (by rw [List.map_cons, List.map_cons, el, e]) (by rw [List.length_cons, show j + (l.length + 1) = j + 1 + l.length by omega]; exact hI)
    rw [List.append_assoc]
    exact z
theorem mem_ends {l l' : Ar} (e : l'.map ends2 = l.map ends2) {p : Int × Int} (h : p ∈ l) : p ∈ l' ∨ (p.2, p.1) ∈ l' := by
  have z : ends2 p ∈ l'.map ends2 := by rw [e]; exact List.mem_map_of_mem h
  obtain ⟨q, hq, e2⟩ := List.mem_map.mp z
  obtain ⟨q1, q2⟩ := q
  obtain ⟨p1, p2⟩ := p
  rcases ends2_eq e2 with ⟨e3, e4⟩ | ⟨e3, e4⟩
  · simp only at e3 e4
    rw [← e3, ← e4]
    exact .inl hq
  · simp only at e3 e4
    rw [← e3, ← e4]
    exact .inr hq
theorem Bars.turned {n : Int} {l l' : Ar} (b : Bars n l) (n1 : 1 ≤ n) (n2 : n ≤ 12) (e : l'.map ends2 = l.map ends2) : Ok n l' where
  n1 := n1
  n12 := n2
  len := by
    have z := congrArg List.length e
    rw [List.length_map, List.length_map] at z
    rw [z]
    exact b.len
  rng := fun p hp => by
    rcases mem_ends e.symm hp with h | h
    · exact b.rng p h
    · have z := b.rng _ h
      exact ⟨z.2.1, z.1, fun q => z.2.2 q.symm⟩
  dst := by
    have z : (l.map ends2).Pairwise (· ≠ ·) := List.pairwise_map.mpr b.dst
    rw [← e] at z
    exact List.pairwise_map.mp z
  con := fun k h1 h2 => by
    have go : ∀ {a c : Int}, Rch l a c → Rch l' a c := fun h => by
      induction h with
      | refl => exact .refl _
      | step _ e2 ih =>
        refine .step ih ?_
        rcases e2 with h | h
        · exact mem_ends e h
        · exact (mem_ends e h).symm
    exact go (b.con k h1 h2)
theorem ends2_swap (a b : Int) : ends2 (b, a) = ends2 (a, b) := by
  unfold ends2
  simp only
  rw [show min b a = min a b by omega, show max b a = max a b by omega]
theorem pick_fwd (x y : D) : pickL [x, y] (some 1) = [x, y] := by
  unfold pickL
  rw [show sliceRange (sliceBounds none none (some 1) [x, y].length).1 (sliceBounds none none (some 1) [x, y].length).2.1 (sliceBounds none none (some 1) [x, y].length).2.2 = [0, 1] from (by decide : sliceRange (sliceBounds none none (some 1) 2).1 (sliceBounds none none (some 1) 2).2.1 (sliceBounds none none (some 1) 2).2.2 = [0, 1])]
  rfl
theorem pick_bwd (x y : D) : pickL [x, y] (some (-1)) = [y, x] := by
  unfold pickL
  rw [show sliceRange (sliceBounds none none (some (-1)) [x, y].length).1 (sliceBounds none none (some (-1)) [x, y].length).2.1 (sliceBounds none none (some (-1)) [x, y].length).2.2 = [1, 0] from (by decide : sliceRange (sliceBounds none none (some (-1)) 2).1 (sliceBounds none none (some (-1)) 2).2.1 (sliceBounds none none (some (-1)) 2).2.2 = [1, 0])]
  rfl
/-- a name's value, 0 where there is none -/
def nth (nm : List Int) (i : Int) : Int := (nm[i.toNat]?).getD 0
theorem atI_nth {nm : List Int} {i : Int} (h0 : 0 ≤ i) (h1 : i < nm.length) : atI (nm.map D.int) i = some (.int (nth nm i)) := by
  obtain ⟨y, e, g⟩ := atI_int h0 h1
  rw [e]
  unfold nth
  rw [g]
  rfl
theorem p__law_sides : PM fs__law_sides w__law_sides ["_law_draws_here", "_law_size", "_law_bars_here", "_law_ranks", "_law_one", "_law_two"] := by
  rintro os ds Q ⟨k, n, l, rfl, n1, n2, br, hd, hk, q⟩
  show w__law_sides _ [some (.ino (.lst os)), some (.dat (.int n) false), some (.dat (arD l) false), none, none, none]
  have ll := br.len
  subst_eqs
  refine ⟨trivial, ?_⟩
  subst_eqs
  refine ⟨hd.flt, _, rfl, hd, by omega, fun os1 v hd1 => ?_⟩
  subst_eqs
  refine ⟨(by decide : (0 : Int) < 3), ?_⟩
  subst_eqs
  by_cases e : v % 3 = 0
  · refine bT (yT e) ?_
    subst_eqs
    refine ⟨size_ok (by simp; omega), ?_⟩
    rw [show ((l.map prD).map fun d => (d, false)) = l.map fun a => (prD a, false) from List.map_map ..]
    refine lc_turn (I := fun j Γ => ∃ os', Γ = [some (.ino (.lst os')), some (.dat (.int n) false), some (.dat (arD l) false), none, none, none] ∧ Dr (k + 1 + j) os') (fun _ _ _ => dep0) l _ 0 [] true (fun a ha i Γ KT KF hi ⟨os2, eΓ, hd2⟩ kk => ?_) ?_ ⟨os1, rfl, hd1⟩
    · subst eΓ
      obtain ⟨x, y⟩ := a
      subst_eqs
      refine ⟨size_ok (by simp), ?_⟩
      subst_eqs
      refine ⟨size_ok (by simp), ?_⟩
      subst_eqs
      refine ⟨trivial, ?_⟩
      subst_eqs
      refine ⟨hd2.flt, _, rfl, hd2, by omega, fun os3 w hd3 => ?_⟩
      subst_eqs
      refine ⟨(by decide : (0 : Int) < 2), ?_⟩
      subst_eqs
      have bw := Bd.mod w (A := 2) (by decide)
      unfold Bd at bw
      by_cases e0 : w % 2 = 0
      · rw [e0, show atI (List.map (fun x : D × Bool => x.1) [(D.int 1, true), (D.int (-1), true)]) 0 = some (.int 1) from rfl]
        subst_eqs
        refine ⟨by decide, ?_⟩
        rw [show pickL (List.map (fun z : D × Bool => z.1) [(D.int (x, y).fst, (prD (x, y), false).snd || flt (D.int (x, y).fst)), (D.int (x, y).snd, (prD (x, y), false).snd || flt (D.int (x, y).snd))]) (some 1) = [D.int x, D.int y] from pick_fwd _ _]
        refine kk _ (x, y) _ rfl ?_
        exact ⟨os3, rfl, hd3⟩
      · have e1 : w % 2 = 1 := by omega
        rw [e1, show atI (List.map (fun x : D × Bool => x.1) [(D.int 1, true), (D.int (-1), true)]) 1 = some (.int (-1)) from rfl]
        subst_eqs
        refine ⟨by decide, ?_⟩
        rw [show pickL (List.map (fun z : D × Bool => z.1) [(D.int (x, y).fst, (prD (x, y), false).snd || flt (D.int (x, y).fst)), (D.int (x, y).snd, (prD (x, y), false).snd || flt (D.int (x, y).snd))]) (some (-1)) = [D.int y, D.int x] from pick_bwd _ _]
        refine kk _ (y, x) _ (ends2_swap x y) ?_
        exact ⟨os3, rfl, hd3⟩
    · rintro l' f Γ' el ⟨os3, rfl, hd3⟩
      exact ⟨hd3.flt, q _ _ _ (hd3.up (by omega)) (br.turned n1 n2 el)⟩
  · refine bF (yF e) ?_
    subst_eqs
    refine ⟨trivial, ?_⟩
    subst_eqs
    refine ⟨⟨by decide, by decide, by omega, by omega, by omega⟩, ?_⟩
    have er : rgD 0 (n - 0).toNat = ((List.range n.toNat).map fun (i : Nat) => (0 + i : Int)).map .int := by
      unfold rgD
      rw [List.map_map, Int.sub_zero]
      rfl
    rw [er]
    subst_eqs
    refine ⟨hd1.flt, _, _, rfl, hd1, by simp; omega, by simp; omega, plain_ints _, Nat.le_trans (dep_ints _) (by decide), fun os2 ys fr hd2 pm => ?_⟩
    obtain ⟨rk, rfl, pm2⟩ := unmap unI (fun _ => rfl) pm
    have lr : rk.length = n.toNat := by rw [pm2.length_eq]; simp
    rw [List.length_map, List.length_map, List.length_range] at hd2
    subst_eqs
    refine ⟨size_ok (by simp; omega), ?_⟩
    refine lc_mapS l (fun a => (prD a, false)) (fun a => prD (if nth rk (a.1 - 1) < nth rk (a.2 - 1) then a else (a.2, a.1))) dep0 (fun a ha KT KF kk => ?_) ?_ (List.map_map ..)
    · have ra := br.rng a ha
      obtain ⟨x, y⟩ := a
      have rx := ra.1
      have ry := ra.2.1
      simp only at rx ry
      subst_eqs
      rw [atI_nth (by omega) (by omega)]
      subst_eqs
      rw [atI_nth (by omega) (by omega)]
      subst_eqs
      by_cases e2 : nth rk (x - 1) < nth rk (y - 1)
      · refine bT (yT e2) ?_
        subst_eqs
        refine ⟨size_ok (by simp), ?_⟩
        rw [if_pos e2] at kk
        exact kk _ (by rfl)
      · refine bF (yF e2) ?_
        subst_eqs
        refine ⟨size_ok (by simp), ?_⟩
        rw [if_neg e2] at kk
        exact kk _ (by rfl)
    · subst_eqs
      have el : (l.map fun a => prD (if nth rk (a.1 - 1) < nth rk (a.2 - 1) then a else (a.2, a.1))) = (l.map fun a => if nth rk (a.1 - 1) < nth rk (a.2 - 1) then a else (a.2, a.1)).map prD := by
        rw [List.map_map]
        rfl
      rw [el]
      refine ⟨hd2.flt, q _ _ _ (hd2.up (by omega)) (br.turned n1 n2 ?_)⟩
      rw [List.map_map]
      refine List.map_congr_left fun a _ => ?_
      show ends2 (if _ then a else (a.2, a.1)) = ends2 a
      split
      · rfl
      · exact ends2_swap a.1 a.2
end Q

/-! Q, part 13: in_order, played. -/
namespace Q
open PySem L2 Y
-- the head of a wp, unfolded, through tests that are told
local macro_rules | `(tactic| subst_eqs) => `(tactic| ((with_reducible conv => whnf); repeat ((with_reducible first | refine bT rfl ?_ | refine bF rfl ?_ | refine dT rfl ?_ | refine dF rfl ?_ | refine bF (nT rfl) ?_ | refine bT (nF rfl) ?_); (with_reducible conv => whnf))))
theorem lc_mapQ {α : Type} {tg : WG} {tt : WT} {te : WE} {vs : List Nat} {dp : Dep} {Γ : En} {K : List D → Bool → En → Prop} {its : List (D × Bool)} (l : List α) (src : α → D × Bool) (g : α → D) (fl : α → Bool) (hd : depE Γ dp)
    (h : ∀ a ∈ l, LcIt tg tt te vs Γ (src a) (some (g a, fl a))) (k : ∀ f, K (l.map g) f Γ) (hi : its = l.map src := by rfl) : lcGo tg tt te vs dp its [] true Γ K := by
  subst hi
  refine lc_map l src _ hd h ?_
  have e : (l.filterMap fun a => some (g a, fl a)).map (·.1) = l.map g := by
    rw [List.filterMap_eq_map', List.map_map]
    rfl
  rw [e]
  exact k _
/-- the rows that the law sorts -/
abbrev t2 (p : Int × Int) : D := .tup [.lst [.int (min p.1 p.2), .int (max p.1 p.2)], prD p]
theorem t2_pd (p : Int × Int) : pd (t2 p) = .tuple [.list [.int (min p.1 p.2), .int (max p.1 p.2)], .list [.int p.1, .int p.2]] := by
  unfold pd
  rfl
abbrev L4 (a b c d a' b' c' d' : Int) : Prop := a < a' ∨ (a = a' ∧ (b < b' ∨ (b = b' ∧ (c < c' ∨ (c = c' ∧ d < d')))))
theorem lt2 (a b c d : Int) : PySem.W.dataLt (.list [.int a, .int b]) (.list [.int c, .int d]) = decide (a < c ∨ (a = c ∧ b < d)) := by
  have z := PySem.W.dataLt_ii a b c d
  unfold PySem.W.dataLt PySem.W.keyToks at z ⊢
  exact z
theorem lt22 (a b c d a' b' c' d' : Int) : PySem.W.dataLt (.tuple [.list [.int a, .int b], .list [.int c, .int d]]) (.tuple [.list [.int a', .int b'], .list [.int c', .int d']]) = decide (L4 a b c d a' b' c' d') := by
  rw [PySem.W.dataLt_pair (by simp [PySem.W.alike, PySem.W.alikeAll]) (by simp [PySem.W.alike, PySem.W.alikeAll]), lt2, lt2]
  simp only [PyData.eqv, PyData.eqvAll, Bool.and_true, Bool.and_eq_true, beq_iff_eq]
  unfold L4
  split
  · split
    · symm
      rw [decide_eq_false_iff_not]
      omega
    · rw [decide_eq_decide]
      omega
  · rw [decide_eq_decide]
    omega
theorem lt4 (a b c d a' b' c' d' : Int) : PySem.W.dataLt (.tuple [.int a, .int b, .int c, .int d]) (.tuple [.int a', .int b', .int c', .int d']) = decide (L4 a b c d a' b' c' d') := by
  have al : ∀ x y : Int, PySem.W.alike (.int x) (.int y) = true := fun _ _ => rfl
  rw [PySem.W.dataLt_tuple, PySem.W.dataLt_cons (al _ _), PySem.W.dataLt_cons (al _ _), PySem.W.dataLt_cons (al _ _), PySem.W.dataLt_cons (al _ _), show PyProof.Rows.lexLt PyProof.Rows.itemOrd (PySem.W.keyToksAll []) (PySem.W.keyToksAll []) = false from PyProof.Rows.lex_irrefl _]
  simp only [PySem.W.dataLt_int, PyData.eqv, beq_iff_eq]
  unfold L4
  repeat' split
  all_goals first | (rw [decide_eq_decide]; omega) | (symm; rw [decide_eq_false_iff_not]; omega)
theorem le_24 (p q : Int × Int) : leD (t2 p) (t2 q) = leD (t4 p) (t4 q) := by
  show (!PySem.W.dataLt (pd (t2 q)) (pd (t2 p))) = (!PySem.W.dataLt (pd (t4 q)) (pd (t4 p)))
  rw [t2_pd, t2_pd, t4_pd, t4_pd, lt22, lt4]
theorem sort_ok2 (l : Ar) (hl : l.length ≤ 100) : SortOk (l.map t2) := by
  refine ⟨?_, ?_, ?_, size_ok (by rw [List.length_map]; omega), fun d hd => ?_⟩
  · refine plainAll_of fun d hd => ?_
    obtain ⟨a, _, rfl⟩ := List.mem_map.mp hd
    rfl
  · rw [List.map_map]
    refine PySem.W.AllAlike.of fun a b => ?_
    show PySem.W.alike (pd (t2 a)) (pd (t2 b)) = true
    rw [t2_pd, t2_pd]
    rfl
  · rw [List.map_map]
    refine PySem.W.Sortable.tuples fun a => ⟨_, _, t2_pd a⟩
  · obtain ⟨a, _, rfl⟩ := List.mem_map.mp hd
    refine Nat.le_trans (depth_pd _) ?_
    show dep (.tup [.lst [.int (min a.1 a.2), .int (max a.1 a.2)], prD a]) ≤ 60
    have h1 : dep (.tup [.lst [.int (min a.1 a.2), .int (max a.1 a.2)], prD a]) = depAll [.lst [.int (min a.1 a.2), .int (max a.1 a.2)], prD a] + 1 := by
      show dep (.tup _) = _
      unfold dep
      rfl
    rw [h1]
    have h2 : depAll [.lst [.int (min a.1 a.2), .int (max a.1 a.2)], prD a] ≤ 1 := depAll_le.mpr fun d hd => by
      rcases List.mem_cons.mp hd with e | hd
      · rw [e]
        exact dep_ints [min a.1 a.2, max a.1 a.2]
      · rw [List.mem_singleton.mp hd]
        exact dep_pr a
    omega
theorem p__law_in_order : PP fs__law_in_order w__law_in_order ["_law_sides_here", "_law_side"] := by
  rintro ds Q ex ⟨l, rfl, hl, q⟩
  show w__law_in_order _ [some (.dat (arD l) false), none]
  subst_eqs
  refine ⟨size_ok (by simp; omega), ?_⟩
  refine lc_mapQ l (fun a => (prD a, false)) t2 (fun _ => false) dep0 (fun a ha KT KF k => ?_) (fun f => ?_) (List.map_map ..)
  · obtain ⟨t, h⟩ := a
    subst_eqs
    refine ⟨[t, h], rfl, by simp, fun m m1 m2 => ?_⟩
    have em := min_of m1 m2
    subst_eqs
    refine ⟨[t, h], rfl, by simp, fun m' m1' m2' => ?_⟩
    have em' := max_of m1' m2'
    subst_eqs
    refine ⟨size_ok (by simp), ?_⟩
    subst_eqs
    refine ⟨size_ok (by simp), ?_⟩
    rw [em, em']
    exact k _ (by rfl)
  · subst_eqs
    refine ⟨sort_ok2 l hl, ?_⟩
    subst_eqs
    have es : (l.map t2).mergeSort leD = (srt l).map t2 := by
      have z : (fun p q : Int × Int => leD (t4 p) (t4 q)) = fun p q => leD (t2 p) (t2 q) := funext fun p => funext fun q => (le_24 p q).symm
      unfold srt
      rw [z]
      exact (List.map_mergeSort (r := fun p q => leD (t2 p) (t2 q)) (s := leD) (f := t2) (l := l) fun a _ b _ => rfl).symm
    rw [es]
    have ls : (srt l).length = l.length := List.length_mergeSort _
    refine ⟨size_ok (by rw [List.length_map, List.length_map]; omega), ?_⟩
    refine lc_mapQ (srt l) (fun a => (t2 a, f)) prD (fun _ => f || false) dep0 (fun a ha KT KF k => ?_) (fun f => q f) (List.map_map ..)
    subst_eqs
    rw [at1]
    subst_eqs
    exact k _ (by rfl)
end Q

/-! Q, part 14: played. -/
namespace Q
open PySem L2 Y
-- the head of a wp, unfolded, through tests that are told
local macro_rules | `(tactic| subst_eqs) => `(tactic| ((with_reducible conv => whnf); repeat ((with_reducible first | refine bT rfl ?_ | refine bF rfl ?_ | refine dT rfl ?_ | refine dF rfl ?_ | refine bF (nT rfl) ?_ | refine bT (nF rfl) ?_); (with_reducible conv => whnf))))
theorem ply_snoc (l : Ar) (ts : List Int) (t : Int) : ply l (ts ++ [t]) = trn (ply l ts) t := by
  unfold ply
  rw [List.foldl_append]
  rfl
theorem legal_snoc {n t : Int} : ∀ {ts : List Int} {l : Ar}, legal n l ts → t ∈ mayI n (ply l ts) → legal n l (ts ++ [t])
  | [], _, _, h => ⟨h, trivial⟩
  | _ :: _, _, lg, h => ⟨lg.1, legal_snoc lg.2 h⟩
theorem in_snoc (ts : List Int) (t : Int) : inD (ts ++ [t]) = .lst (ts.map .int ++ [.int t]) := by
  unfold inD
  rw [List.map_append]
  rfl
theorem atI_last {α : Type} (l : List α) (x : α) : atI (l ++ [x]) (-1) = some x := by
  unfold atI ixN
  rw [if_neg (by decide), if_pos (by rw [List.length_append, List.length_singleton]; omega)]
  show (l ++ [x])[((-1 : Int) + ((l ++ [x]).length : Int)).toNat]? = _
  rw [List.length_append, List.length_singleton, show ((-1 : Int) + ((l.length + 1 : Nat) : Int)).toNat = l.length by omega]
  simp
theorem may_len (n : Int) (l : Ar) : (mayI n l).length ≤ n.toNat := by
  unfold mayI
  refine Nat.le_trans (List.length_filter_le ..) ?_
  rw [pts_len]
  exact Nat.le_refl _
theorem p__law_played : PM fs__law_played w__law_played ["_law_draws_here", "_law_size", "_law_sides_here", "_law_most", "_law_told", "_law_step", "_law_free"] := by
  rintro os ds Q ⟨k, n, l, m, rfl, n1, n2, ll, m1, m2, hd, hk, q⟩
  show w__law_played _ [some (.ino (.lst os)), some (.dat (.int n) false), some (.dat (arD l) false), some (.dat (.int m) false), none, none, none]
  subst_eqs
  refine ⟨size_ok (by simp), ?_⟩
  subst_eqs
  refine ⟨trivial, ?_⟩
  subst_eqs
  refine ⟨hd.flt, _, rfl, hd, by omega, fun os1 v hd1 => ?_⟩
  subst_eqs
  refine ⟨(by omega : (0 : Int) < m + 1), ?_⟩
  subst_eqs
  have bv := Bd.mod v (A := m + 1) (by omega)
  unfold Bd at bv
  refine ⟨⟨by omega, by omega⟩, ?_⟩
  subst_eqs
  refine ⟨rfl, ?_⟩
  refine for_pre (List.range (v % (m + 1)).toNat) (fun (i : Nat) => (.int (0 + i), true)) (fun pre Γ => ∃ os' ts f2 f4 a5 a6, Γ = [some (.ino (.lst os')), some (.dat (.int n) false), some (.dat (arD (ply l ts)) f2), some (.dat (.int m) false), some (.own (inD ts) f4), a5, a6] ∧ legal n l ts ∧ ts.length ≤ pre.length ∧ Dr (k + 1 + pre.length) os') ⟨os1, [], _, _, _, _, rfl, trivial, Nat.le_refl _, hd1⟩ ?_ ?_
  · rintro pre a r Γ N e ⟨os2, ts, f2, f4, a5, a6, rfl, lg, lt, dr⟩ hN
    obtain ⟨ha, hl⟩ := range_pre e
    subst ha
    have lp := ply_len ts l
    subst_eqs
    refine ⟨n, _, rfl, by omega, by omega, by omega, ?_⟩
    subst_eqs
    refine ⟨size_ok (by simp), ?_⟩
    subst_eqs
    refine ⟨⟨okD_in _, okD_in []⟩, ?_⟩
    rw [eqvD_nil]
    have lm := may_len n (ply l ts)
    by_cases e : (mayI n (ply l ts)).map D.int = []
    · refine bF (nT (yT e)) ?_
      subst_eqs
      exact hN _ ⟨os2, ts, f2, f4, _, _, rfl, lg, by simp; omega, dr.up (by simp)⟩
    · refine bT (nF (yF e)) ?_
      have lpos : 0 < (mayI n (ply l ts)).length := by
        refine List.length_pos_iff.mpr fun z => e ?_
        rw [z]
        rfl
      subst_eqs
      refine ⟨trivial, ?_⟩
      subst_eqs
      refine ⟨trivial, ?_⟩
      subst_eqs
      refine ⟨dr.flt, _, rfl, dr, by omega, fun os3 w hd3 => ?_⟩
      subst_eqs
      rw [List.length_map]
      refine ⟨(by omega : (0 : Int) < (mayI n (ply l ts)).length), ?_⟩
      have bw := Bd.mod w (A := ((mayI n (ply l ts)).length : Int)) (by omega)
      obtain ⟨t, et, gt⟩ := atI_int (nm := mayI n (ply l ts)) bw.1 bw.2
      subst_eqs
      rw [et]
      subst_eqs
      refine ⟨size_lt (by rw [List.length_map]; omega), ?_⟩
      subst_eqs
      rw [atI_last]
      subst_eqs
      refine ⟨_, t, rfl, by omega, ?_⟩
      subst_eqs
      refine hN _ ⟨os3, ts ++ [t], true, f4 && (true || false), some (.dat (.int (0 + (pre.length : Int))) true), some (.dat (inD (mayI n (ply l ts))) true), ?_, legal_snoc lg (List.mem_of_getElem? gt), by simp; omega, hd3.up (by simp; omega)⟩
      rw [in_snoc, ply_snoc]
      rfl
  · rintro Γ ⟨os2, ts, f2, f4, a5, a6, rfl, lg, lt, dr⟩
    rw [List.length_range] at lt dr
    subst_eqs
    refine ⟨size_ok (by simp), ?_⟩
    exact ⟨dr.flt, q _ _ _ (dr.up (by omega)) (by omega) lg⟩
end Q

/-! Q, part 15: onward. -/
namespace Q
open PySem L2 Y
-- the head of a wp, unfolded, through tests that are told
local macro_rules | `(tactic| subst_eqs) => `(tactic| ((with_reducible conv => whnf); repeat ((with_reducible first | refine bT rfl ?_ | refine bF rfl ?_ | refine dT rfl ?_ | refine dF rfl ?_ | refine bF (nT rfl) ?_ | refine bT (nF rfl) ?_); (with_reducible conv => whnf))))
def clo (l : Ar) (S : List Int) : Prop := ∀ p ∈ l, p.1 ∈ S → p.2 ∈ S
def cnt (n : Int) (S : List Int) : Nat := ((pts n).filter fun k => decide (k ∈ S)).length
structure Ow' (n : Int) (l : Ar) (k : Int) (i : Nat) (S : List Int) : Prop where
  sub : ∀ j ∈ S, Onw l k j
  seed : ∀ p ∈ l, p.1 = k → p.2 ∈ S
  grow : clo l S ∨ i ≤ cnt n S
theorem Onw.rng {n : Int} {l : Ar} {k j : Int} (hr : ∀ p ∈ l, inR n p) (h : Onw l k j) : 1 ≤ j ∧ j ≤ n := by
  cases h with
  | one h => exact (hr _ h).2.1
  | more _ h => exact (hr _ h).2.1
theorem filter_le {α : Type} {p q : α → Bool} : ∀ {l : List α}, (∀ x ∈ l, p x = true → q x = true) → (l.filter p).length ≤ (l.filter q).length
  | [], _ => Nat.le_refl _
  | a :: l, h => by
    have ih := filter_le (p := p) (q := q) (l := l) fun x hx => h x (List.mem_cons_of_mem _ hx)
    have ha := h a List.mem_cons_self
    rw [List.filter_cons, List.filter_cons]
    cases e : p a with
    | false =>
      rw [if_neg Bool.false_ne_true]
      split <;> simp <;> omega
    | true =>
      rw [if_pos rfl, if_pos (ha e)]
      simp
      exact ih
theorem filter_lt {α : Type} {p q : α → Bool} {x : α} : ∀ {l : List α}, (∀ x ∈ l, p x = true → q x = true) → x ∈ l → p x = false → q x = true → (l.filter p).length < (l.filter q).length
  | [], _, hx, _, _ => by cases hx
  | a :: l, h, hx, hp, hq => by
    have le := filter_le (p := p) (q := q) (l := l) fun x hx => h x (List.mem_cons_of_mem _ hx)
    rw [List.filter_cons, List.filter_cons]
    rcases List.mem_cons.mp hx with e | hx
    · subst e
      rw [hp, hq, if_neg Bool.false_ne_true, if_pos rfl]
      simp
      omega
    · have ih := filter_lt (p := p) (q := q) (l := l) (fun x hx => h x (List.mem_cons_of_mem _ hx)) hx hp hq
      have ha := h a List.mem_cons_self
      cases e : p a with
      | false =>
        rw [if_neg Bool.false_ne_true]
        split <;> simp <;> omega
      | true =>
        rw [if_pos rfl, if_pos (ha e)]
        simp
        exact ih
theorem Ow'.next {n : Int} {l : Ar} {k : Int} {i : Nat} {S T : List Int} (hr : ∀ p ∈ l, inR n p) (o : Ow' n l k i S) (h : ∀ j, j ∈ T ↔ j ∈ S ∨ ∃ p ∈ l, p.1 ∈ S ∧ p.2 = j) : Ow' n l k (i + 1) T where
  sub := fun j hj => by
    rcases (h j).mp hj with hj | ⟨p, hp, h1, rfl⟩
    · exact o.sub j hj
    · exact .more (o.sub _ h1) hp
  seed := fun p hp e => (h _).mpr (.inl (o.seed p hp e))
  grow := by
    by_cases c : clo l S
    · left
      intro p hp h1
      rcases (h _).mp h1 with h1 | ⟨q, hq, h2, e⟩
      · exact (h _).mpr (.inl (c p hp h1))
      · rw [← e] at h1
        exact (h _).mpr (.inl (c p hp (by rw [← e]; exact c q hq h2)))
    · right
      have g := o.grow.resolve_left c
      obtain ⟨p, hp, h1, h2⟩ : ∃ p ∈ l, p.1 ∈ S ∧ p.2 ∉ S := by
        refine Classical.byContradiction fun z => c fun p hp h1 => Classical.byContradiction fun h2 => z ⟨p, hp, h1, h2⟩
      refine Nat.lt_of_le_of_lt g ?_
      refine filter_lt (x := p.2) (fun x _ hx => ?_) (pts_mem.mpr (hr p hp).2.1) (decide_eq_false h2) (decide_eq_true ((h _).mpr (.inr ⟨p, hp, h1, rfl⟩)))
      exact decide_eq_true ((h _).mpr (.inl (of_decide_eq_true hx)))
theorem Ow'.done {n : Int} {l : Ar} {k : Int} {S : List Int} (hr : ∀ p ∈ l, inR n p) (o : Ow' n l k n.toNat S) (j : Int) : j ∈ S ↔ Onw l k j := by
  have c : clo l S := by
    rcases o.grow with c | g
    · exact c
    · intro p hp _
      have le : cnt n S ≤ (pts n).length := List.length_filter_le ..
      rw [pts_len] at le
      have e : cnt n S = (pts n).length := by rw [pts_len]; omega
      have z := List.length_filter_eq_length_iff.mp e p.2 (pts_mem.mpr (hr p hp).2.1)
      exact of_decide_eq_true z
  constructor
  · exact o.sub j
  · intro h
    induction h with
    | one h => exact o.seed _ h rfl
    | more _ h ih => exact c _ h ih
theorem snd_in (l : Ar) : inD (l.map (·.2)) = .lst (l.map fun a => D.int a.2) := by
  unfold inD
  rw [List.map_map]
  rfl
theorem p__law_onward : PP fs__law_onward w__law_onward ["_law_size", "_law_sides_here", "_law_spot", "_law_seen", "_law_step", "_law_tail", "_law_head"] := by
  rintro ds Q ex ⟨n, l, k, rfl, n1, n2, ll, hr, q⟩
  show w__law_onward _ [some (.dat (.int n) false), some (.dat (arD l) false), some (.dat (.int k) false), none, none, none, none]
  subst_eqs
  refine ⟨size_ok (by simp; omega), ?_⟩
  refine lc_filS l (fun a => (prD a, false)) (fun a => decide (a.1 = k)) (fun a => .int a.2) dep0 (fun a ha KT KF kk => ?_) ?_ (List.map_map ..)
  · obtain ⟨t, h⟩ := a
    subst_eqs
    by_cases e : t = k
    · refine bT (yT e) ?_
      rw [if_pos (decide_eq_true e)] at kk
      subst_eqs
      exact kk _ (by rfl)
    · refine bF (yF e) ?_
      rw [if_neg (by simpa using e)] at kk
      subst_eqs
      exact kk _ (by rfl)
  subst_eqs
  refine ⟨⟨by omega, by omega⟩, ?_⟩
  subst_eqs
  refine ⟨rfl, ?_⟩
  refine for_pre (List.range n.toNat) (fun (i : Nat) => (.int (0 + i), true)) (fun pre Γ => ∃ S a4, Γ = [some (.dat (.int n) false), some (.dat (arD l) false), some (.dat (.int k) false), some (.dat (inD S) true), a4, none, none] ∧ S.length ≤ 30 ∧ Ow' n l k pre.length S) ⟨(l.filter fun a => decide (a.1 = k)).map (·.2), none, ?_, ?_, ?_⟩ ?_ ?_
  · rw [snd_in]
  · rw [List.length_map]
    exact Nat.le_trans (List.length_filter_le ..) ll
  · refine ⟨fun j hj => ?_, fun p hp e => ?_, .inr (Nat.zero_le _)⟩
    · obtain ⟨p, hp, rfl⟩ := List.mem_map.mp hj
      rw [List.mem_filter] at hp
      obtain ⟨p1, p2⟩ := p
      have e : p1 = k := of_decide_eq_true hp.2
      rw [← e]
      exact .one hp.1
    · exact List.mem_map.mpr ⟨p, List.mem_filter.mpr ⟨hp, decide_eq_true e⟩, rfl⟩
  · rintro pre a r Γ N e ⟨S, a4, rfl, lS, o⟩ hN
    subst_eqs
    refine ⟨size_ok (by simp; omega), ?_⟩
    refine lc_filS l (fun a => (prD a, false)) (fun a => decide (a.1 ∈ S)) (fun a => .int a.2) dep0 (fun a ha KT KF kk => ?_) ?_ (List.map_map ..)
    · obtain ⟨t, h⟩ := a
      subst_eqs
      refine ⟨⟨rfl, okD_in _⟩, ?_⟩
      rw [any_in]
      subst_eqs
      by_cases e : t ∈ S
      · refine bT (yT e) ?_
        rw [if_pos (decide_eq_true e)] at kk
        subst_eqs
        exact kk _ (by rfl)
      · refine bF (yF e) ?_
        rw [if_neg (by simpa using e)] at kk
        subst_eqs
        exact kk _ (by rfl)
    · subst_eqs
      have lf : (l.filter fun a => decide (a.1 ∈ S)).length ≤ l.length := List.length_filter_le ..
      refine ⟨size_ok (by rw [List.length_map, List.length_map]; omega), ?_⟩
      subst_eqs
      refine ⟨S ++ (l.filter fun a => decide (a.1 ∈ S)).map (·.2), ?_, ?_, fun ms srt_ mem => ?_⟩
      · rw [List.map_append, List.map_map]
        rfl
      · rw [List.length_append, List.length_map]
        omega
      · have o2 : Ow' n l k (pre.length + 1) ms := o.next hr fun j => by
          rw [mem, List.mem_append, List.mem_map]
          constructor
          · rintro (h | ⟨p, hp, e⟩)
            · exact .inl h
            · rw [List.mem_filter] at hp
              exact .inr ⟨p, hp.1, of_decide_eq_true hp.2, e⟩
          · rintro (h | ⟨p, hp, h1, e⟩)
            · exact .inl h
            · exact .inr ⟨p, List.mem_filter.mpr ⟨hp, decide_eq_true h1⟩, e⟩
        have nd : ms.Nodup := srt_.imp fun h => by omega
        have lm := few 12 ms nd fun j hj => by
          have := (o2.sub j hj).rng hr
          omega
        refine hN _ ⟨ms, _, rfl, by omega, ?_⟩
        rw [List.length_append, List.length_singleton]
        exact o2
  · rintro Γ ⟨S, a4, rfl, lS, o⟩
    rw [List.length_range] at o
    subst_eqs
    exact q S (by omega) (o.done hr)
end Q

/-! Q, part 16: the law's barred. -/
namespace Q
open PySem L2 Y
-- the head of a wp, unfolded, through tests that are told
local macro_rules | `(tactic| subst_eqs) => `(tactic| ((with_reducible conv => whnf); repeat ((with_reducible first | refine bT rfl ?_ | refine bF rfl ?_ | refine dT rfl ?_ | refine dF rfl ?_ | refine bF (nT rfl) ?_ | refine bT (nF rfl) ?_); (with_reducible conv => whnf))))
/-- k leads to a ring -/
def good (l : Ar) (k : Int) : Prop := ∃ r, Onw l k r ∧ Onw l r r
theorem Onw.cons {l : Ar} {a b c : Int} (h : (a, b) ∈ l) (k : Onw l b c) : Onw l a c := by
  induction k with
  | one h2 => exact .more (.one h) h2
  | more _ h2 ih => exact .more ih h2
theorem Onw.head {l : Ar} {a c : Int} (k : Onw l a c) : ∃ b, (a, b) ∈ l ∧ (b = c ∨ Onw l b c) := by
  induction k with
  | one h => exact ⟨_, h, .inl rfl⟩
  | more _ h2 ih =>
    obtain ⟨b, hb, e | e⟩ := ih
    · subst e
      exact ⟨_, hb, .inr (.one h2)⟩
    · exact ⟨_, hb, .inr (.more e h2)⟩
theorem good.next {l : Ar} {k : Int} (g : good l k) : ∃ j, (k, j) ∈ l ∧ good l j := by
  obtain ⟨r, h1, h2⟩ := g
  obtain ⟨b, hb, e | e⟩ := h1.head
  · subst e
    exact ⟨b, hb, b, h2, h2⟩
  · exact ⟨b, hb, r, e, h2⟩
theorem mem_ends_of {l : Ar} {left : List Int} {k : Int} : k ∈ endsOf l left ↔ k ∈ left ∧ ∀ p ∈ l, p.1 = k → p.2 ∉ left := by
  unfold endsOf
  rw [List.mem_filter, decide_eq_true_eq, List.filter_eq_nil_iff]
  constructor
  · rintro ⟨h1, h2⟩
    exact ⟨h1, fun p hp e hm => h2 p hp (decide_eq_true ⟨e, hm⟩)⟩
  · rintro ⟨h1, h2⟩
    exact ⟨h1, fun p hp e => h2 p hp (of_decide_eq_true e).1 (of_decide_eq_true e).2⟩
theorem all_onw {n : Int} {l : Ar} (hr : ∀ p ∈ l, inR n p) (k : Int) : ∃ T : List Int, ∀ x, x ∈ T ↔ Onw l k x := by
  have cl := Classical.propDecidable
  refine ⟨(pts n).filter fun x => @decide (Onw l k x) (cl _), fun x => ?_⟩
  rw [List.mem_filter]
  constructor
  · exact fun h => @of_decide_eq_true _ (cl _) h.2
  · exact fun h => ⟨pts_mem.mpr (h.rng hr), @decide_eq_true _ (cl _) h⟩
/-- where all lead on, all lead to a ring -/
theorem all_good {n : Int} {l : Ar} {left : List Int} (hr : ∀ p ∈ l, inR n p) (he : endsOf l left = []) : ∀ (N : Nat) (S : List Int) (k : Int), (∀ j, j ∈ S ↔ Onw l k j) → cnt n S ≤ N → k ∈ left → good l k := by
  have step : ∀ k ∈ left, ∃ j ∈ left, (k, j) ∈ l := fun k hk => by
    refine Classical.byContradiction fun z => ?_
    have : k ∈ endsOf l left := mem_ends_of.mpr ⟨hk, fun p hp e hm => z ⟨p.2, hm, by rw [← e]; exact hp⟩⟩
    rw [he] at this
    cases this
  intro N
  induction N with
  | zero =>
    intro S k hS hc hk
    obtain ⟨j, hj, hl⟩ := step k hk
    have hjS := (hS j).mpr (.one hl)
    have : j ∈ (pts n).filter fun x => decide (x ∈ S) := List.mem_filter.mpr ⟨pts_mem.mpr (hr _ hl).2.1, decide_eq_true hjS⟩
    have := List.length_pos_of_mem this
    unfold cnt at hc
    omega
  | succ N ih =>
    intro S k hS hc hk
    obtain ⟨j, hj, hl⟩ := step k hk
    by_cases hjj : Onw l j j
    · exact ⟨j, .one hl, hjj⟩
    · obtain ⟨T, hT⟩ := all_onw hr j
      have lt : cnt n T < cnt n S := by
        refine filter_lt (x := j) (fun x _ hx => ?_) (pts_mem.mpr (hr _ hl).2.1) (decide_eq_false fun h => hjj ((hT j).mp h)) (decide_eq_true ((hS j).mpr (.one hl)))
        exact decide_eq_true ((hS x).mpr (.cons hl ((hT x).mp (of_decide_eq_true hx))))
      obtain ⟨r, h1, h2⟩ := ih T j hT (by omega) hj
      exact ⟨r, .cons hl h1, h2⟩
theorem brdF_good {n : Int} {l : Ar} (hr : ∀ p ∈ l, inR n p) {p : Int → Bool} (hp : ∀ k, 1 ≤ k → k ≤ n → (p k = true ↔ good l k)) : ∀ (m : Nat) (left : List Int), left.length ≤ m → (∀ k ∈ left, 1 ≤ k ∧ k ≤ n) → (∀ k, 1 ≤ k → k ≤ n → good l k → k ∈ left) → brdF l m left = left.filter p
  | 0, left, hm, _, _ => by
    have e : left = [] := List.eq_nil_of_length_eq_zero (by omega)
    subst e
    rfl
  | m + 1, left, hm, hs, hg => by
    show (if endsOf l left = [] then left else brdF l m (left.filter fun k => decide (k ∉ endsOf l left))) = _
    by_cases e : endsOf l left = []
    · rw [if_pos e]
      symm
      refine List.filter_eq_self.mpr fun k hk => ?_
      have hk2 := hs k hk
      refine (hp k hk2.1 hk2.2).mpr ?_
      obtain ⟨T, hT⟩ := all_onw hr k
      exact all_good hr e _ T k hT (Nat.le_refl _) hk
    · rw [if_neg e]
      have lt := less_left l left e
      have out : ∀ k ∈ left, good l k → k ∉ endsOf l left := fun k hk g hm => by
        obtain ⟨j, hj, g2⟩ := g.next
        have hj2 := (hr _ hj).2.1
        exact (mem_ends_of.mp hm).2 _ hj rfl (hg j hj2.1 hj2.2 g2)
      rw [brdF_good hr hp m _ (by omega) (fun k hk => hs k (List.mem_filter.mp hk).1) fun k h1 h2 g => List.mem_filter.mpr ⟨hg k h1 h2 g, decide_eq_true (out k (hg k h1 h2 g) g)⟩, List.filter_filter]
      refine List.filter_congr fun k hk => ?_
      have hk2 := hs k hk
      cases ep : p k with
      | false => rfl
      | true => rw [decide_eq_true (out k hk ((hp k hk2.1 hk2.2).mp ep))]; rfl
theorem brd_good {n : Int} {l : Ar} (hr : ∀ p ∈ l, inR n p) {p : Int → Bool} (hp : ∀ k, 1 ≤ k → k ≤ n → (p k = true ↔ good l k)) : brd n l = (pts n).filter p :=
  brdF_good hr hp _ _ (by rw [pts_len]; exact Nat.le_refl _) (fun k hk => pts_mem.mp hk) fun k h1 h2 _ => pts_mem.mpr ⟨h1, h2⟩
/-- a comprehension whose items are told by a relation -/
theorem lc_rel {α β : Type} {tg : WG} {tt : WT} {te : WE} {vs : List Nat} {dp : Dep} {Γ : En} {K : List D → Bool → En → Prop} {its : List (D × Bool)} (l : List α) (src : α → D × Bool) (g : β → D) (R : α → β → Prop) (hd : depE Γ dp)
    (h : ∀ a ∈ l, ∀ (KT : D → Bool → En → Prop) (KF : En → Prop), (∀ Γ' b, R a b → rs Γ Γ' vs = Γ → KT (g b) true Γ') → tg (src a).1 (src a).2 (wp Γ vs) fun Γ1 => tt ex0 Γ1 fun b Γ2 => ifB b (te ex0 Γ2 KT) (KF Γ2))
    (k : ∀ bs : List β, bs.length = l.length → (∀ (i : Nat) (a : α) (b : β), l[i]? = some a → bs[i]? = some b → R a b) → K (bs.map g) true Γ) (hi : its = l.map src := by rfl) : lcGo tg tt te vs dp its [] true Γ K := by
  subst hi
  have main : ∀ (r pre : List α) (acc : List β), l = pre ++ r → acc.length = pre.length → (∀ (i : Nat) (a : α) (b : β), pre[i]? = some a → acc[i]? = some b → R a b) → lcGo tg tt te vs dp (r.map src) (acc.map g) true Γ K := by
    intro r
    induction r with
    | nil =>
      intro pre acc e el hR
      rw [List.append_nil] at e
      subst e
      exact ⟨hd, k acc el hR⟩
    | cons a r ih =>
      intro pre acc e el hR
      refine ⟨hd, ?_⟩
      refine h a (by rw [e]; simp) _ _ fun Γ' b hab er => ?_
      show lcGo tg tt te vs dp (r.map src) (acc.map g ++ [g b]) (true && true) (rs Γ Γ' vs) K
      rw [er, show acc.map g ++ [g b] = (acc ++ [b]).map g from by rw [List.map_append]; rfl]
      refine ih (pre ++ [a]) (acc ++ [b]) (by rw [e, List.append_assoc]; rfl) (by rw [List.length_append, List.length_append, el]; rfl) fun i x y hx hy => ?_
      by_cases hi : i < pre.length
      · rw [List.getElem?_append_left hi] at hx
        rw [List.getElem?_append_left (by omega)] at hy
        exact hR i x y hx hy
      · rw [List.getElem?_append_right (by omega)] at hx
        rw [List.getElem?_append_right (by omega)] at hy
        rw [el] at hy
        cases q : i - pre.length with
        | zero =>
          rw [q] at hx hy
          cases hx
          cases hy
          exact hab
        | succ j =>
          rw [q] at hx
          cases hx
  exact main l [] [] rfl rfl fun i a b hx _ => by cases hx
theorem atI_map {α : Type} (g : α → D) {L : List α} {i : Int} (h0 : 0 ≤ i) (h1 : i < L.length) : ∃ y, atI (L.map g) i = some (g y) ∧ L[i.toNat]? = some y := by
  have hl : i.toNat < L.length := by omega
  refine ⟨L[i.toNat], ?_, List.getElem?_eq_getElem hl⟩
  unfold atI
  rw [List.length_map, ix_ok h0 h1]
  show (L.map g)[i.toNat]? = _
  rw [List.getElem?_map, List.getElem?_eq_getElem hl]
  rfl
theorem pts_at {n : Int} {i : Nat} (h : i < n.toNat) : (pts n)[i]? = some (1 + (i : Int)) := by
  unfold pts
  rw [List.getElem?_map, List.getElem?_range h]
  rfl
theorem p__law_barred : PP fs__law_barred w__law_barred ["_law_size", "_law_sides_here", "_law_onward_here", "_law_rings", "_law_spot", "_law_mate"] := by
  rintro ds Q ex ⟨n, l, rfl, n1, n2, ll, hr, q⟩
  show w__law_barred _ [some (.dat (.int n) false), some (.dat (arD l) false), none, none, none, none]
  have pl := pts_len n
  subst_eqs
  refine ⟨⟨by decide, by decide, by omega, by omega⟩, ?_, ?_⟩
  · refine size_ok ?_
    rw [rng_pts, List.length_map, pl]
    omega
  refine lc_rel (pts n) (fun k => (.int k, true)) inD (fun k ms => ms.length ≤ 100 ∧ ∀ j, j ∈ ms ↔ Onw l k j) dep0 (fun k hk KT KF kk => ?_) (fun L eL hL => ?_) (rng_pts n)
  · subst_eqs
    refine ⟨n, l, k, rfl, n1, n2, ll, hr, fun ms h1 h2 => ?_⟩
    exact kk _ ms ⟨h1, h2⟩ (by rfl)
  have hX : ∃ X : Int → List Int, ∀ k, 1 ≤ k → k ≤ n → atI (L.map inD) (k - 1) = some (inD (X k)) ∧ ∀ j, j ∈ X k ↔ Onw l k j := by
    refine ⟨fun k => (L[(k - 1).toNat]?).getD [], fun k k1 k2 => ?_⟩
    obtain ⟨y, e, g⟩ := atI_map inD (L := L) (i := k - 1) (by omega) (by omega)
    rw [e]
    simp only [g, Option.getD_some]
    have z := hL (k - 1).toNat (1 + ((k - 1).toNat : Int)) y (pts_at (by omega)) g
    rw [show 1 + ((k - 1).toNat : Int) = k by omega] at z
    exact ⟨trivial, z.2⟩
  obtain ⟨X, hX⟩ := hX
  have bp : brd n l = (pts n).filter fun k => decide (((pts n).filter fun r => decide (r ∈ X r)).filter (fun m => decide (m ∈ X k)) ≠ []) := by
    refine brd_good hr fun k k1 k2 => ?_
    rw [decide_eq_true_eq, ne_eq, List.filter_eq_nil_iff]
    constructor
    · intro h
      refine Classical.byContradiction fun z => h fun r hm e => z ?_
      rw [List.mem_filter, decide_eq_true_eq] at hm
      have hr2 := pts_mem.mp hm.1
      exact ⟨r, ((hX k k1 k2).2 r).mp (of_decide_eq_true e), ((hX r hr2.1 hr2.2).2 r).mp hm.2⟩
    · rintro ⟨r, h1, h2⟩ z
      have hr2 := h1.rng hr
      exact z r (List.mem_filter.mpr ⟨pts_mem.mpr hr2, decide_eq_true (((hX r hr2.1 hr2.2).2 r).mpr h2)⟩) (decide_eq_true (((hX k k1 k2).2 r).mpr h1))
  rw [bp] at q
  subst_eqs
  refine ⟨⟨by decide, by decide, by omega, by omega⟩, ?_, ?_⟩
  · refine size_ok ?_
    rw [rng_pts, List.length_map, pl]
    omega
  refine lc_filS (pts n) (fun k => (.int k, true)) (fun r => decide (r ∈ X r)) .int dep0 (fun k hk KT KF kk => ?_) ?_ (rng_pts n)
  · have hk2 := pts_mem.mp hk
    subst_eqs
    rw [(hX k hk2.1 hk2.2).1]
    subst_eqs
    refine ⟨⟨rfl, okD_in _⟩, ?_⟩
    rw [any_in]
    subst_eqs
    by_cases e : k ∈ X k
    · refine bT (yT e) ?_
      rw [if_pos (decide_eq_true e)] at kk
      subst_eqs
      exact kk _ (by rfl)
    · refine bF (yF e) ?_
      rw [if_neg (by simpa using e)] at kk
      subst_eqs
      exact kk _ (by rfl)
  have lr : ((pts n).filter fun r => decide (r ∈ X r)).length ≤ (pts n).length := List.length_filter_le ..
  subst_eqs
  refine ⟨⟨by decide, by decide, by omega, by omega⟩, ?_, ?_⟩
  · refine size_ok ?_
    rw [rng_pts, List.length_map, pl]
    omega
  refine lc_filS (pts n) (fun k => (.int k, true)) (fun k => decide (((pts n).filter fun r => decide (r ∈ X r)).filter (fun m => decide (m ∈ X k)) ≠ [])) .int dep0 (fun k hk KT KF kk => ?_) q (rng_pts n)
  have hk2 := pts_mem.mp hk
  subst_eqs
  refine ⟨size_ok (by rw [List.length_map, List.length_map]; omega), ?_⟩
  refine lc_filS ((pts n).filter fun r => decide (r ∈ X r)) (fun m => (.int m, true)) (fun m => decide (m ∈ X k)) .int dep0 (fun m hm KT2 KF2 kk2 => ?_) ?_ (List.map_map ..)
  · subst_eqs
    rw [(hX k hk2.1 hk2.2).1]
    subst_eqs
    refine ⟨⟨rfl, okD_in _⟩, ?_⟩
    rw [any_in]
    subst_eqs
    by_cases e : m ∈ X k
    · refine bT (yT e) ?_
      rw [if_pos (decide_eq_true e)] at kk2
      subst_eqs
      exact kk2 _ (by rfl)
    · refine bF (yF e) ?_
      rw [if_neg (by simpa using e)] at kk2
      subst_eqs
      exact kk2 _ (by rfl)
  · subst_eqs
    refine ⟨size_ok (by simp), ?_⟩
    subst_eqs
    refine ⟨⟨okD_in _, okD_in []⟩, ?_⟩
    rw [eqvD_nil]
    by_cases e : ((pts n).filter fun r => decide (r ∈ X r)).filter (fun m => decide (m ∈ X k)) = []
    · refine bF (nT (decide_eq_true (by rw [e]; rfl))) ?_
      rw [if_neg (by simpa using e)] at kk
      subst_eqs
      exact kk _ (by rfl)
    · refine bT (nF (decide_eq_false (by simpa using e))) ?_
      rw [if_pos (decide_eq_true e)] at kk
      subst_eqs
      exact kk _ (by rfl)
end Q

/-! Q, part 17: texts of nets. -/
namespace Q
open PySem L2 Y
mutual
def smal : D → Bool
  | .int i => decide (0 ≤ i ∧ i ≤ 12)
  | .lst xs => smalAll xs
  | _ => false
def smalAll : List D → Bool
  | [] => true
  | x :: xs => smal x && smalAll xs
end
mutual
def szD : D → Nat
  | .lst xs => 2 + szAll xs
  | _ => 2
def szAll : List D → Nat
  | [] => 0
  | x :: xs => szD x + 2 + szAll xs
end
theorem shown_small {i : Int} (h : 0 ≤ i ∧ i ≤ 12) : (PyData.shown (.int i)).length ≤ 2 ∧ (PyData.showable (.int i)) = true := by
  have e : i = 0 ∨ i = 1 ∨ i = 2 ∨ i = 3 ∨ i = 4 ∨ i = 5 ∨ i = 6 ∨ i = 7 ∨ i = 8 ∨ i = 9 ∨ i = 10 ∨ i = 11 ∨ i = 12 := by omega
  rcases e with e | e | e | e | e | e | e | e | e | e | e | e | e <;> subst e <;> exact ⟨by unfold PyData.shown; decide +kernel, by unfold PyData.showable; decide⟩
theorem text_le : ∀ (ts : List Str) (k : Nat) (acc : Str), (textFrom k acc ts).length ≤ acc.length + (ts.map (·.length)).sum + ts.length * 2
  | [], k, acc => by
    show acc.length ≤ _
    simp
  | t :: ts, k, acc => by
    have z := text_le ts (k + 1) (acc ++ (if k > 0 then ", " else "" : String) ++ t)
    have e : (acc ++ (if k > 0 then ", " else "" : String) ++ t).length = acc.length + (if k > 0 then 2 else 0) + t.length := by
      rw [strLen_append, strLen_append]
      split <;> rfl
    rw [e] at z
    show (textFrom (k + 1) _ ts).length ≤ _
    rw [List.map_cons, List.sum_cons, List.length_cons]
    have b2 : (if k > 0 then 2 else 0 : Nat) ≤ 2 := by split <;> omega
    omega
theorem listText_len (ts : List Str) : (listText ts).length ≤ (ts.map (·.length)).sum + ts.length * 2 + 2 := by
  unfold listText
  have z := text_le ts 0 "["
  rw [strLen_append]
  have e1 : (("[" : String) : Str).length = 1 := rfl
  have e2 : (("]" : String) : Str).length = 1 := rfl
  omega
mutual
theorem shown_sz : ∀ d : D, smal d = true → (pd d).shown.length ≤ szD d ∧ (pd d).showable = true
  | .int i, h => by
    unfold smal at h
    have z := shown_small (of_decide_eq_true h)
    unfold pd szD
    exact z
  | .lst xs, h => by
    unfold smal at h
    have z := shown_szAll xs h
    have w := listText_len (PyData.shownAll (pdAll xs))
    unfold pd szD PyData.shown PyData.showable
    exact ⟨by omega, z.2⟩
  | .non, h => by unfold smal at h; cases h
  | .bl _, h => by unfold smal at h; cases h
  | .str _, h => by unfold smal at h; cases h
  | .tup _, h => by unfold smal at h; cases h
  | .dk _, h => by unfold smal at h; cases h
  | .dt _, h => by unfold smal at h; cases h
theorem shown_szAll : ∀ ds : List D, smalAll ds = true → ((PyData.shownAll (pdAll ds)).map (·.length)).sum + (PyData.shownAll (pdAll ds)).length * 2 ≤ szAll ds ∧ PyData.showableAll (pdAll ds) = true
  | [], _ => by
    unfold pdAll PyData.shownAll szAll PyData.showableAll
    exact ⟨Nat.le_refl _, rfl⟩
  | d :: ds, h => by
    unfold smalAll at h
    rw [Bool.and_eq_true] at h
    have z := shown_sz d h.1
    have w := shown_szAll ds h.2
    unfold pdAll PyData.shownAll szAll PyData.showableAll
    rw [List.map_cons, List.sum_cons, List.length_cons, z.2, w.2]
    exact ⟨by omega, rfl⟩
end
theorem smal_of : ∀ {l : List D}, (∀ d ∈ l, smal d = true) → smalAll l = true
  | [], _ => rfl
  | a :: l, h => by
    unfold smalAll
    rw [h a List.mem_cons_self, smal_of fun d hd => h d (List.mem_cons_of_mem _ hd)]
    rfl
theorem szAll_le {b : Nat} : ∀ {l : List D}, (∀ d ∈ l, szD d ≤ b) → szAll l ≤ l.length * (b + 2)
  | [], _ => Nat.zero_le _
  | a :: l, h => by
    unfold szAll
    have h1 := h a List.mem_cons_self
    have h2 := szAll_le fun d hd => h d (List.mem_cons_of_mem _ hd)
    rw [List.length_cons, Nat.succ_mul]
    omega
theorem sz_lst (l : List D) : szD (.lst l) = 2 + szAll l := by
  show szD (.lst l) = _
  unfold szD
  rfl
theorem smal_lst (l : List D) : smal (.lst l) = smalAll l := by
  show smal (.lst l) = _
  unfold smal
  rfl
/-- what repr asks, of small data -/
theorem repr_ok {d : D} (h1 : Y.plain d = true) (h2 : smal d = true) (h3 : dep d ≤ 60) (h4 : szD d ≤ 1000000) : Y.plain d = true ∧ (pd d).showable = true ∧ (pd d).depth ≤ 60 ∧ (pd d).shown.length ≤ sizeLine :=
  ⟨h1, (shown_sz d h2).2, Nat.le_trans (depth_pd d) h3, size_ok (Nat.le_trans (shown_sz d h2).1 h4)⟩
/-- small, plain, short -/
structure Sh (b c : Nat) (d : D) : Prop where
  p : Y.plain d = true
  s : smal d = true
  dp : dep d ≤ b
  z : szD d ≤ c
theorem Sh.rep {b c : Nat} {d : D} (h : Sh b c d) (hb : b ≤ 60 := by decide) (hc : c ≤ 1000000 := by decide) : Y.plain d = true ∧ (pd d).showable = true ∧ (pd d).depth ≤ 60 ∧ (pd d).shown.length ≤ sizeLine := repr_ok h.p h.s (Nat.le_trans h.dp hb) (Nat.le_trans h.z hc)
theorem Sh.lst {b c n : Nat} {l : List D} (h : ∀ d ∈ l, Sh b c d) (hn : l.length ≤ n) : Sh (b + 1) (2 + n * (c + 2)) (.lst l) where
  p := by unfold Y.plain; exact plainAll_of fun d hd => (h d hd).p
  s := by rw [smal_lst]; exact smal_of fun d hd => (h d hd).s
  dp := by
    rw [dep_lst]
    exact Nat.succ_le_succ (depAll_le.mpr fun d hd => (h d hd).dp)
  z := by
    rw [sz_lst]
    exact Nat.add_le_add_left (Nat.le_trans (szAll_le fun d hd => (h d hd).z) (Nat.mul_le_mul_right _ hn)) 2
theorem Sh.int {i : Int} (h : 0 ≤ i ∧ i ≤ 12) : Sh 0 2 (.int i) where
  p := rfl
  s := by unfold smal; exact decide_eq_true h
  dp := Nat.le_refl _
  z := Nat.le_refl _
theorem Sh.ins {l : List Int} {n : Nat} (h : ∀ i ∈ l, 0 ≤ i ∧ i ≤ 12) (hn : l.length ≤ n) : Sh 1 (2 + n * 4) (inD l) :=
  Sh.lst (fun d hd => by
    obtain ⟨i, hi, rfl⟩ := List.mem_map.mp hd
    exact Sh.int (h i hi)) (by rw [List.length_map]; exact hn)
theorem Sh.ars {n : Int} (n2 : n ≤ 12) {l : Ar} (h : ∀ p ∈ l, inR n p) (hn : l.length ≤ 30) : Sh 2 400 (arD l) := by
  have z : Sh 2 (2 + 30 * (10 + 2)) (arD l) := Sh.lst (fun d hd => by
    obtain ⟨p, hp, rfl⟩ := List.mem_map.mp hd
    have hr := h p hp
    unfold inR at hr
    exact Sh.ins (l := [p.1, p.2]) (n := 2) (fun i hi => by simp at hi; omega) (by simp)) (by rw [List.length_map]; exact hn)
  exact ⟨z.p, z.s, z.dp, Nat.le_trans z.z (by decide)⟩
theorem Sh.up {b c b' c' : Nat} {d : D} (h : Sh b c d) (hb : b ≤ b' := by decide) (hc : c ≤ c' := by decide) : Sh b' c' d := ⟨h.p, h.s, Nat.le_trans h.dp hb, Nat.le_trans h.z hc⟩
theorem Sh.two {b c : Nat} {x y : D} (h : Sh b c x) (k : Sh b c y) : Sh (b + 1) (2 + 2 * (c + 2)) (.lst [x, y]) :=
  Sh.lst (fun d hd => by
    rcases List.mem_cons.mp hd with e | hd
    · rw [e]; exact h
    · rw [List.mem_singleton.mp hd]; exact k) (by simp)
end Q

/-! Q, part 18: what turns do to nets (no program in sight). -/
namespace Q
open PySem L2 Y
theorem may_rng {n : Int} {l : Ar} : ∀ k ∈ mayI n l, 1 ≤ k ∧ k ≤ n := fun k hk => (may_mem.mp hk).1
theorem brdF_sub (l : Ar) : ∀ (m : Nat) (left : List Int), ∀ k ∈ brdF l m left, k ∈ left
  | 0, _, _, h => h
  | m + 1, left, k, h => by
    have h' : k ∈ (if endsOf l left = [] then left else brdF l m (left.filter fun k => decide (k ∉ endsOf l left))) := h
    split at h'
    · exact h'
    · exact (List.mem_filter.mp (brdF_sub l m _ k h')).1
theorem brd_rng {n : Int} {l : Ar} : ∀ k ∈ brd n l, 1 ≤ k ∧ k ≤ n := fun k hk => pts_mem.mp (brdF_sub l _ _ k hk)
theorem brdF_len (l : Ar) : ∀ (m : Nat) (left : List Int), (brdF l m left).length ≤ left.length
  | 0, _ => Nat.le_refl _
  | m + 1, left => by
    show (if endsOf l left = [] then left else brdF l m (left.filter fun k => decide (k ∉ endsOf l left))).length ≤ _
    split
    · exact Nat.le_refl _
    · exact Nat.le_trans (brdF_len l m _) (List.length_filter_le ..)
theorem brd_len (n : Int) (l : Ar) : (brd n l).length ≤ n.toNat := by
  have := brdF_len l n.toNat (pts n)
  rw [pts_len] at this
  exact this
theorem Ok.bars {n : Int} {l : Ar} (o : Ok n l) : Bars n l := ⟨o.len, o.rng, o.dst, o.con⟩
theorem Bars.ok {n : Int} {l : Ar} (b : Bars n l) (n1 : 1 ≤ n) (n2 : n ≤ 12) : Ok n l := ⟨n1, n2, b.len, b.rng, b.dst, b.con⟩
theorem Ok.perm {n : Int} {l l' : Ar} (o : Ok n l) (pm : l'.Perm l) : Ok n l' := (o.bars.perm pm).ok o.n1 o.n12
theorem trn_ends (l : Ar) (p : Int) : (trn l p).map ends2 = l.map ends2 := by
  unfold trn
  rw [List.map_map]
  refine List.map_congr_left fun a _ => ?_
  show ends2 (if a.2 = p then (a.2, a.1) else a) = ends2 a
  split
  · exact ends2_swap ..
  · rfl
theorem ply_ends : ∀ (ts : List Int) (l : Ar), (ply l ts).map ends2 = l.map ends2
  | [], _ => rfl
  | t :: ts, l => (ply_ends ts (trn l t)).trans (trn_ends l t)
theorem Ok.trn {n : Int} {l : Ar} (o : Ok n l) (p : Int) : Ok n (trn l p) := o.bars.turned o.n1 o.n12 (trn_ends l p)
theorem Ok.ply {n : Int} {l : Ar} (o : Ok n l) (ts : List Int) : Ok n (ply l ts) := o.bars.turned o.n1 o.n12 (ply_ends ts l)
theorem srt_perm (l : Ar) : (srt l).Perm l := List.mergeSort_perm ..
theorem Ok.srt {n : Int} {l : Ar} (o : Ok n l) : Ok n (srt l) := o.perm (srt_perm l)
theorem le4 (p q : Int × Int) : leD (t4 p) (t4 q) = !decide (L4 (min q.1 q.2) (max q.1 q.2) q.1 q.2 (min p.1 p.2) (max p.1 p.2) p.1 p.2) := by
  show (!PySem.W.dataLt (pd (t4 q)) (pd (t4 p))) = _
  rw [t4_pd, t4_pd, lt4]
theorem le4_anti {p q : Int × Int} (h : leD (t4 p) (t4 q) = true) (k : leD (t4 q) (t4 p) = true) : p = q := by
  rw [le4] at h k
  simp only [Bool.not_eq_true', decide_eq_false_iff_not, L4] at h k
  refine Prod.ext ?_ ?_ <;> omega
theorem le4_total (p q : Int × Int) : (leD (t4 p) (t4 q) || leD (t4 q) (t4 p)) = true := by
  rw [le4, le4, Bool.or_eq_true]
  simp only [Bool.not_eq_true', decide_eq_false_iff_not, L4]
  omega
theorem le4_trans (p q r : Int × Int) (h : leD (t4 p) (t4 q) = true) (k : leD (t4 q) (t4 r) = true) : leD (t4 p) (t4 r) = true := by
  rw [le4] at h k ⊢
  simp only [Bool.not_eq_true', decide_eq_false_iff_not, L4] at h k ⊢
  omega
theorem srt_sorted (l : Ar) : (srt l).Pairwise fun p q => leD (t4 p) (t4 q) = true := List.pairwise_mergeSort (le := fun p q => leD (t4 p) (t4 q)) (fun a b c => le4_trans a b c) (fun a b => le4_total a b) l
theorem sorted_eq : ∀ {l m : Ar}, l.Perm m → l.Pairwise (fun p q => leD (t4 p) (t4 q) = true) → m.Pairwise (fun p q => leD (t4 p) (t4 q) = true) → l = m
  | [], m, pm, _, _ => (List.nil_perm.mp pm).symm
  | p :: l, [], pm, _, _ => by simp at pm
  | p :: l, q :: m, pm, h, k => by
    have e : p = q := by
      have hp := List.pairwise_cons.mp h
      have kq := List.pairwise_cons.mp k
      rcases List.mem_cons.mp (pm.mem_iff.mp (List.mem_cons_self ..)) with e | e
      · exact e
      · rcases List.mem_cons.mp (pm.mem_iff.mpr (List.mem_cons_self (a := q))) with e2 | e2
        · exact e2.symm
        · exact le4_anti (hp.1 _ e2) (kq.1 _ e)
    subst e
    rw [sorted_eq (List.Perm.cons_inv pm) (List.pairwise_cons.mp h).2 (List.pairwise_cons.mp k).2]
theorem srt_eq {l l' : Ar} (pm : l'.Perm l) : srt l' = srt l := sorted_eq (((srt_perm l').trans pm).trans (srt_perm l).symm) (srt_sorted _) (srt_sorted _)
theorem may_perm {n : Int} {l l' : Ar} (pm : l'.Perm l) : mayI n l' = mayI n l := by
  unfold mayI
  refine List.filter_congr fun k _ => ?_
  rw [decide_eq_decide, (pm.map (·.1)).mem_iff]
theorem trn_perm {l l' : Ar} (pm : l'.Perm l) (p : Int) : (trn l' p).Perm (trn l p) := pm.map _
theorem Onw.mono {l l' : Ar} (s : ∀ p ∈ l, p ∈ l') {a b : Int} (h : Onw l a b) : Onw l' a b := by
  induction h with
  | one h => exact .one (s _ h)
  | more _ h ih => exact .more ih (s _ h)
theorem good.mono {l l' : Ar} (s : ∀ p ∈ l, p ∈ l') {a : Int} (h : good l a) : good l' a := h.imp fun _ k => ⟨k.1.mono s, k.2.mono s⟩
theorem brd_mem {n : Int} {l : Ar} (hr : ∀ p ∈ l, inR n p) {k : Int} : k ∈ brd n l ↔ (1 ≤ k ∧ k ≤ n) ∧ good l k := by
  have cl := Classical.propDecidable
  have e := brd_good (n := n) hr (p := fun k => @decide (good l k) (cl _)) fun k _ _ => ⟨fun h => @of_decide_eq_true _ (cl _) h, fun h => @decide_eq_true _ (cl _) h⟩
  rw [e, List.mem_filter, pts_mem]
  exact ⟨fun h => ⟨h.1, @of_decide_eq_true _ (cl _) h.2⟩, fun h => ⟨h.1, @decide_eq_true _ (cl _) h.2⟩⟩
theorem not_may {n : Int} {l : Ar} {k : Int} (g : good l k) : k ∉ mayI n l := fun h => by
  obtain ⟨j, hj, _⟩ := g.next
  exact (may_mem.mp h).2 (List.mem_map.mpr ⟨_, hj, rfl⟩)
theorem trn_keep {l : Ar} {a b t : Int} (h : (a, b) ∈ l) (ne : b ≠ t) : (a, b) ∈ trn l t := by
  refine List.mem_map.mpr ⟨(a, b), h, ?_⟩
  show (if b = t then (b, a) else (a, b)) = _
  rw [if_neg ne]
theorem trn_flip {l : Ar} {a t : Int} (h : (a, t) ∈ l) : (t, a) ∈ trn l t := by
  refine List.mem_map.mpr ⟨(a, t), h, ?_⟩
  show (if t = t then (t, a) else (a, t)) = _
  rw [if_pos rfl]
theorem Onw.trn {l : Ar} {t : Int} (ht : ∀ x, (t, x) ∉ l) {a b : Int} (h : Onw l a b) (k : ∃ x, (b, x) ∈ l) : Onw (trn l t) a b := by
  induction h with
  | one h => exact .one (trn_keep h fun e => k.elim fun x hx => ht x (e ▸ hx))
  | more _ h ih => exact .more (ih ⟨_, h⟩) (trn_keep h fun e => k.elim fun x hx => ht x (e ▸ hx))
theorem good.trn {n : Int} {l : Ar} {t k : Int} (g : good l k) (h : t ∈ mayI n l) : good (trn l t) k := by
  obtain ⟨r, h1, h2⟩ := g
  have ht : ∀ x, (t, x) ∉ l := fun x hx => (may_mem.mp h).2 (List.mem_map.mpr ⟨_, hx, rfl⟩)
  have kr : ∃ x, (r, x) ∈ l := h2.head.imp fun _ z => z.1
  exact ⟨r, h1.trn ht kr, h2.trn ht kr⟩
theorem good.ply {n : Int} {k : Int} : ∀ {ts : List Int} {l : Ar}, legal n l ts → good l k → good (ply l ts) k ∧ k ∉ ts
  | [], _, _, g => ⟨g, by simp⟩
  | t :: ts, l, h, g => by
    obtain ⟨a, b⟩ := good.ply h.2 (g.trn h.1)
    refine ⟨a, fun z => ?_⟩
    rcases List.mem_cons.mp z with e | z
    · subst e
      exact not_may g h.1
    · exact b z
theorem brd_grow {n : Int} {l : Ar} (o : Ok n l) {ts : List Int} (lg : legal n l ts) {k : Int} (h : k ∈ brd n l) : k ∈ brd n (srt (ply l ts)) := by
  obtain ⟨h1, h2⟩ := (brd_mem o.rng).mp h
  refine (brd_mem (o.ply ts).srt.rng).mpr ⟨h1, ?_⟩
  exact (good.ply lg h2).1.mono fun p hp => (srt_perm _).mem_iff.mpr hp
theorem brd_still {n : Int} {l : Ar} (o : Ok n l) {ts : List Int} (lg : legal n l ts) {k : Int} (h : k ∈ ts) : k ∉ brd n l := fun hb =>
  (good.ply lg ((brd_mem o.rng).mp hb).2).2 h
/-- v, u, v, .. -/
def alt (v u : Int) : List Int → Prop
  | [] => True
  | x :: r => x = v ∧ alt u v r
theorem legal.alt {n a b : Int} : ∀ {ts : List Int} {l : Ar} {u v : Int}, legal n l ts → (u, v) ∈ l → ((a = u ∧ b = v) ∨ (a = v ∧ b = u)) → alt v u (ts.filter fun x => decide (x = a ∨ x = b))
  | [], _, _, _, _, _, _ => trivial
  | t :: ts, l, u, v, h, m, e => by
    have hu : t ≠ u := fun z => (may_mem.mp h.1).2 (List.mem_map.mpr ⟨_, m, z.symm⟩)
    by_cases hv : t = v
    · subst hv
      rw [List.filter_cons_of_pos (by rcases e with ⟨rfl, rfl⟩ | ⟨rfl, rfl⟩ <;> simp)]
      exact ⟨rfl, legal.alt h.2 (trn_flip m) (by omega)⟩
    · rw [List.filter_cons_of_neg (by simp only [decide_eq_true_eq]; omega)]
      exact legal.alt h.2 (trn_keep m fun z => hv z.symm) e
theorem alt_zip : ∀ {fs : List Int} {u v : Int}, u ≠ v → alt v u fs → (fs.zip (fs.drop 1)).filter (fun q => decide (q.1 = q.2)) = []
  | [], _, _, _, _ => rfl
  | [_], _, _, _, _ => rfl
  | x :: y :: r, u, v, ne, h => by
    obtain ⟨rfl, rfl, h3⟩ := h
    have := alt_zip (fs := y :: r) (u := x) (v := y) (fun z => ne z.symm) ⟨rfl, h3⟩
    show ((x, y) :: (y :: r).zip ((y :: r).drop 1)).filter _ = []
    rw [List.filter_cons_of_neg (by simp only [decide_eq_true_eq]; omega)]
    exact this
theorem legal.rng {n : Int} : ∀ {ts : List Int} {l : Ar}, legal n l ts → ∀ t ∈ ts, 1 ≤ t ∧ t ≤ n
  | [], _, _, _, h => by cases h
  | t :: ts, l, h, x, hx => by
    rcases List.mem_cons.mp hx with rfl | hx
    · exact may_rng _ h.1
    · exact legal.rng h.2 x hx
theorem may_apart {n : Int} {l : Ar} : (l.filter fun a => decide (a.1 ∈ mayI n l) && decide (a.2 ∈ mayI n l)) = [] := by
  refine List.filter_eq_nil_iff.mpr fun a ha h => ?_
  rw [Bool.and_eq_true, decide_eq_true_eq] at h
  exact (may_mem.mp h.1).2 (List.mem_map.mpr ⟨a, ha, rfl⟩)
end Q

/-! Q, part 19: right. -/
namespace Q
open PySem L2 Y
-- the head of a wp, unfolded, through tests that are told
local macro_rules | `(tactic| subst_eqs) => `(tactic| ((with_reducible conv => whnf); repeat ((with_reducible first | refine bT rfl ?_ | refine bF rfl ?_ | refine dT rfl ?_ | refine dF rfl ?_ | refine bF (nT rfl) ?_ | refine bT (nF rfl) ?_); (with_reducible conv => whnf))))
theorem Sh.may {n : Int} {l : Ar} (n2 : n ≤ 12) : Sh 1 50 (inD (mayI n l)) :=
  Sh.ins (n := 12) (fun i hi => by have := may_rng i hi; omega) (by have := may_len n l; omega)
theorem Sh.brd {n : Int} {l : Ar} (n2 : n ≤ 12) : Sh 1 50 (inD (brd n l)) :=
  Sh.ins (n := 12) (fun i hi => by have := brd_rng i hi; omega) (by have := brdF_len l n.toNat (pts n); rw [pts_len] at this; unfold Q.brd; omega)
theorem strOk_app (a b : Str) : PyData.strOk (a ++ b) = (PyData.strOk a && PyData.strOk b) := by
  unfold PyData.strOk
  rw [PySem.Str.cps_append, Array.all_append]
theorem text_ok : ∀ (ts : List Str) (k : Nat) (acc : Str), PyData.strOk acc = true → (∀ t ∈ ts, PyData.strOk t = true) → PyData.strOk (textFrom k acc ts) = true
  | [], k, acc, h, _ => h
  | t :: ts, k, acc, h, hs => by
    show PyData.strOk (textFrom (k + 1) (acc ++ (if k > 0 then ", " else "" : String) ++ t) ts) = true
    refine text_ok ts (k + 1) _ ?_ fun x hx => hs x (List.mem_cons_of_mem _ hx)
    rw [strOk_app, strOk_app, h, hs t (List.mem_cons_self ..)]
    split <;> decide +kernel
theorem small_ok {i : Int} (h : 0 ≤ i ∧ i ≤ 12) : PyData.strOk (PyData.shown (.int i)) = true := by
  have e : i = 0 ∨ i = 1 ∨ i = 2 ∨ i = 3 ∨ i = 4 ∨ i = 5 ∨ i = 6 ∨ i = 7 ∨ i = 8 ∨ i = 9 ∨ i = 10 ∨ i = 11 ∨ i = 12 := by omega
  rcases e with e | e | e | e | e | e | e | e | e | e | e | e | e <;> subst e <;> (unfold PyData.shown; decide +kernel)
mutual
theorem shown_ok : ∀ d : D, smal d = true → PyData.strOk (pd d).shown = true
  | .int i, h => by
    unfold smal at h
    have z := small_ok (of_decide_eq_true h)
    unfold pd
    exact z
  | .lst xs, h => by
    unfold smal at h
    have z := shown_okAll xs h
    unfold pd PyData.shown listText
    rw [strOk_app, text_ok _ _ _ (by decide +kernel) z]
    decide +kernel
  | .non, h => by unfold smal at h; cases h
  | .bl _, h => by unfold smal at h; cases h
  | .str _, h => by unfold smal at h; cases h
  | .tup _, h => by unfold smal at h; cases h
  | .dk _, h => by unfold smal at h; cases h
  | .dt _, h => by unfold smal at h; cases h
theorem shown_okAll : ∀ ds : List D, smalAll ds = true → ∀ t ∈ PyData.shownAll (pdAll ds), PyData.strOk t = true
  | [], _ => by
    unfold pdAll PyData.shownAll
    exact fun t h => by cases h
  | d :: ds, h => by
    unfold smalAll at h
    rw [Bool.and_eq_true] at h
    have z := shown_ok d h.1
    have w := shown_okAll ds h.2
    unfold pdAll PyData.shownAll
    intro t ht
    rcases List.mem_cons.mp ht with e | ht
    · rw [e]; exact z
    · exact w t ht
end
/-- the text of d may be compared -/
theorem Sh.okS {b c : Nat} {d : D} (h : Sh b c d) : okD (.str (pd d).shown) = true := by
  unfold okD
  rw [Bool.and_eq_true]
  refine ⟨?_, ?_⟩
  · unfold Y.plain
    exact shown_ok d h.s
  · unfold dep
    rfl
theorem ne_str {x y : Str} (h : x = y) : (!(pd (.str x)).eqv (pd (.str y))) = false := by
  subst h
  unfold pd
  simp [PyData.eqv]
theorem eq_str {x y : Str} (h : x = y) : (pd (.str x)).eqv (pd (.str y)) = true := by
  subst h
  unfold pd
  simp [PyData.eqv]
theorem plain_due {n : Int} {l : Ar} : plainAll [inD (mayI n l), inD (brd n l)] = true := plainAll_of fun d hd => by
  rcases List.mem_cons.mp hd with e | hd
  · rw [e]
    unfold Y.plain
    exact plain_ints _
  · rw [List.mem_singleton.mp hd]
    unfold Y.plain
    exact plain_ints _
theorem p__law_right : PM fs__law_right w__law_right ["_law_draws_here", "_law_size", "_law_sides_here", "_law_kept", "_law_due", "_law_told", "_law_named", "_law_beside", "_law_spot", "_law_later", "_law_side"] := by
  rintro os ds Q ⟨k, n, l, rfl, ok, hd, hk, q⟩
  show w__law_right _ [some (.ino (.lst os)), some (.dat (.int n) false), some (.dat (arD l) false), none, none, none, none, none, none, none, none]
  have n1 := ok.n1
  have n2 := ok.n12
  have ll := ok.len
  have sl : Sh 2 400 (arD l) := .ars n2 ok.rng ll
  have sdue : Sh 2 106 (.lst [inD (mayI n l), inD (brd n l)]) := Sh.two (.may n2) (.brd n2)
  subst_eqs
  constructor
  · exact sl.rep
  subst_eqs
  refine ⟨n, l, rfl, by omega, by omega, by omega, ?_⟩
  subst_eqs
  refine ⟨n, l, rfl, by omega, by omega, by omega, ok.rng, ?_⟩
  subst_eqs
  refine ⟨size_ok (by simp), ?_⟩
  subst_eqs
  refine ⟨n, l, rfl, ok, ?_⟩
  subst_eqs
  refine ⟨n, l, rfl, ok, ?_⟩
  subst_eqs
  refine ⟨size_ok (by simp), ?_⟩
  subst_eqs
  refine ⟨rfl, n, l, rfl, ok, ?_⟩
  subst_eqs
  refine ⟨rfl, n, l, rfl, ok, ?_⟩
  subst_eqs
  refine ⟨size_ok (by simp), ?_⟩
  subst_eqs
  refine ⟨size_ok (by simp), ?_⟩
  subst_eqs
  have sdd := Sh.two sdue sdue
  have rdd := sdd.rep
  have kdd := sdd.okS
  have rdu := sdue.rep
  have kdu := sdue.okS
  have rl := sl.rep
  have kl := sl.okS
  constructor
  · exact rdd
  subst_eqs
  refine ⟨size_ok (by simp), ?_⟩
  subst_eqs
  constructor
  · exact rdd
  subst_eqs
  constructor
  · exact ⟨kdd, kdd⟩
  with_reducible conv => whnf
  refine bF (ne_str ?_) ?_
  · rfl
  subst_eqs
  constructor
  · exact rl
  subst_eqs
  constructor
  · exact ⟨kl, kl⟩
  with_reducible conv => whnf
  refine bF (ne_str ?_) ?_
  · rfl
  subst_eqs
  refine ⟨[inD (mayI n l), inD (brd n l)], (mayI n l).map .int, rfl, plain_due, rfl, size_lt (by rw [List.length_map]; have := may_len n l; omega), ?_⟩
  subst_eqs
  refine ⟨[inD (mayI n l), inD (brd n l)], (brd n l).map .int, rfl, plain_due, rfl, size_lt (by rw [List.length_map]; have := brd_len n l; omega), ?_⟩
  subst_eqs
  generalize h : out _ = Γ0
  have e1 : Γ0 = [some (.ino (.lst os)), some (.dat (.int n) false), some (.dat (arD l) false), some (.dat (.str (pd (arD l)).shown) false), some (.dat (.lst [inD (mayI n l), inD (brd n l)]) false), none, none, none, none, none, none] := by
    rw [← h]
    exact congrArg (fun z => z :: [some (.dat (.int n) false), some (.dat (arD l) false), some (.dat (.str (pd (arD l)).shown) false), some (.dat (.lst [inD (mayI n l), inD (brd n l)]) false), none, none, none, none, none, none]) (if_pos hd.flt : outS (some (.ino (.lst os))) = some (.ino (.lst os)))
  clear h
  subst e1
  refine ⟨n, l, rfl, ok, ?_⟩
  subst_eqs
  refine ⟨n, l, rfl, ok, ?_⟩
  subst_eqs
  refine ⟨size_ok (by simp), ?_⟩
  subst_eqs
  constructor
  · exact rdu
  subst_eqs
  constructor
  · exact rdu
  subst_eqs
  constructor
  · exact ⟨kdu, kdu⟩
  with_reducible conv => whnf
  refine bF (ne_str ?_) ?_
  · rfl
  subst_eqs
  refine ⟨size_ok (by rw [List.length_map, List.length_map]; omega), ?_⟩
  rw [show List.map (fun d => (d, false)) (List.map prD l) = l.map fun a => (prD a, false) from List.map_map ..]
  refine lc_map l (fun a => (prD a, false)) (fun _ => none) dep0 (fun a ha KT KF kk => ?_) ?_
  · have nm : a.1 ∉ mayI n l := fun h => (may_mem.mp h).2 (List.mem_map.mpr ⟨a, ha, rfl⟩)
    subst_eqs
    refine ⟨⟨rfl, okD_in _⟩, ?_⟩
    rw [any_in]
    subst_eqs
    refine bF (yF nm) ?_
    subst_eqs
    exact kk _ (by rfl)
  rw [show l.filterMap (fun _ => (none : Option (D × Bool))) = [] from List.filterMap_eq_nil_iff.mpr fun _ _ => rfl]
  subst_eqs
  refine ⟨size_ok (by simp), ?_⟩
  subst_eqs
  refine ⟨⟨okD_in [], okD_in []⟩, ?_⟩
  rw [eqvD_nil]
  refine bF (nT (yT rfl)) ?_
  subst_eqs
  refine ⟨trivial, ?_⟩
  subst_eqs
  refine ⟨hd.flt, k, _, rfl, hd, by rw [List.length_map]; omega, by rw [List.length_map]; omega, plain_prs l, Nat.le_trans (dep_prs l) (by decide), fun os1 ys fr hd1 pm => ?_⟩
  obtain ⟨l', rfl, pm2⟩ := unmap unP (fun a => rfl) pm
  rw [List.length_map] at hd1
  subst_eqs
  rw [show atI [inD (mayI n l), inD (brd n l)] 0 = some (inD (mayI n l)) from at0 ..]
  subst_eqs
  refine ⟨rfl, ?_⟩
  refine for_pre (mayI n l) (fun t => (.int t, false)) (fun pre Γ => ∃ f3 f4 f7 a5 a6 a8 a9 a10, Γ = [some (.ino (.lst os1)), some (.dat (.int n) false), some (.dat (arD l) false), some (.dat (.str (pd (arD l)).shown) f3), some (.dat (.lst [inD (mayI n l), inD (brd n l)]) f4), a5, a6, some (.dat (arD l') f7), a8, a9, a10]) ⟨_, _, _, _, _, _, _, _, rfl⟩ ?_ ?_ ?_
  · rintro pre t r Γ N e ⟨f3, f4, f7, a5, a6, a8, a9, a10, rfl⟩ hN
    have ht : t ∈ mayI n l := by rw [e]; simp
    subst_eqs
    have o2 : Ok n (srt (trn l t)) := (ok.trn t).srt
    have sa : Sh 2 400 (arD (srt (trn l t))) := .ars n2 o2.rng o2.len
    have ra := sa.rep
    have ka := sa.okS
    have sb := Sh.two sa sa
    have rb := sb.rep
    have kb := sb.okS
    refine ⟨l, t, rfl, by omega, ?_⟩
    subst_eqs
    refine ⟨trn l t, rfl, by rw [trn_len]; omega, fun fr2 => ?_⟩
    subst_eqs
    refine ⟨n, l, t, rfl, ok, ht, ?_⟩
    subst_eqs
    refine ⟨rfl, n, l', t, rfl, ok.perm pm2, by rw [may_perm pm2]; exact ht, ?_⟩
    rw [srt_eq (trn_perm pm2 t)]
    subst_eqs
    refine ⟨size_ok (by simp), ?_⟩
    subst_eqs
    constructor
    · exact rb
    subst_eqs
    refine ⟨size_ok (by simp), ?_⟩
    subst_eqs
    constructor
    · exact rb
    subst_eqs
    constructor
    · exact ⟨kb, kb⟩
    with_reducible conv => whnf
    refine bF (ne_str ?_) ?_
    · rfl
    subst_eqs
    constructor
    · exact rl
    subst_eqs
    constructor
    · exact ⟨kl, kl⟩
    with_reducible conv => whnf
    refine bF (ne_str ?_) ?_
    · rfl
    subst_eqs
    have L : (srt (trn l t)).length ≤ 30 := o2.len
    have pl : plainAll [arD (srt (trn l t)), arD (srt (trn l t))] = true := plainAll_of fun d hd => by
      have e : d = arD (srt (trn l t)) := by simpa using hd
      rw [e]
      unfold Y.plain
      exact plain_prs _
    refine ⟨[arD (srt (trn l t)), arD (srt (trn l t))], (srt (trn l t)).map (fun p => [.int p.1, .int p.2]), rfl, (by show 10 < 11; decide), pl, by rw [List.map_map]; rfl, by simp, fun fs hf => ?_, ?_⟩
    · obtain ⟨p, _, rfl⟩ := List.mem_map.mp hf
      rw [List.length_map]
      exact size_lt (by show 2 + 0 + _ ≤ _; omega)
    subst_eqs
    refine ⟨[arD (srt (trn l t)), arD (srt (trn l t))], (srt (trn l t)).map prD, rfl, pl, rfl, size_lt (by rw [List.length_map, List.length_map]; omega), ?_⟩
    subst_eqs
    generalize h : out _ = Γ0
    obtain ⟨b5, b6, b10, e1⟩ : ∃ b5 b6 b10, Γ0 = [some (.ino (.lst os1)), some (.dat (.int n) false), some (.dat (arD l) false), some (.dat (.str (pd (arD l)).shown) false), some (.dat (.lst [inD (mayI n l), inD (brd n l)]) false), b5, b6, some (.dat (arD l') false), some (.dat (.int t) false), some (.dat (arD (srt (trn l t))) false), b10] := by
      have h2 : outS (some (.ino (.lst os1))) :: _ = Γ0 := h
      rw [show outS (some (.ino (.lst os1))) = some (.ino (.lst os1)) from if_pos hd1.flt] at h2
      exact ⟨_, _, _, h2.symm⟩
    clear h
    subst e1
    refine ⟨n, l, t, rfl, ok, ht, ?_⟩
    subst_eqs
    constructor
    · exact ra
    subst_eqs
    constructor
    · exact ra
    subst_eqs
    constructor
    · exact ⟨ka, ka⟩
    with_reducible conv => whnf
    refine bF (ne_str ?_) ?_
    · rfl
    subst_eqs
    exact hN _ ⟨_, _, _, _, _, _, _, _, rfl⟩
  · rintro Γ ⟨f3, f4, f7, a5, a6, a8, a9, a10, rfl⟩
    subst_eqs
    exact ⟨hd1.flt, q _ (hd1.up (by omega))⟩
  · exact List.map_map ..
end Q

/-! Q, part 20: run_right. -/
namespace Q
open PySem L2 Y
-- the head of a wp, unfolded, through tests that are told
local macro_rules | `(tactic| subst_eqs) => `(tactic| ((with_reducible conv => whnf); repeat ((with_reducible first | refine bT rfl ?_ | refine bF rfl ?_ | refine dT rfl ?_ | refine dF rfl ?_ | refine bF (nT rfl) ?_ | refine bT (nF rfl) ?_); (with_reducible conv => whnf))))
theorem shown_two (a b : D) : (pd (.lst [a, b])).shown = (("[" : Str) ++ (pd a).shown ++ (", " : Str) ++ (pd b).shown ++ ("]" : Str) : Str) := by
  have e : (("[" : Str) ++ (("" : String) : Str) : Str) = ("[" : Str) := by decide +kernel
  simp only [pd, pdAll, PyData.shown, PyData.shownAll]
  show ((((("[" : Str) ++ (("" : String) : Str)) ++ (pd a).shown) ++ (", " : Str) ++ (pd b).shown) ++ ("]" : Str) : Str) = _
  rw [e]
theorem eqv_in : ∀ l : List Int, (pd (inD l)).eqv (pd (inD l)) = true := fun l => by
  have main : ∀ l : List Int, PyData.eqvAll (pdAll (l.map .int)) (pdAll (l.map .int)) = true := fun l => by
    induction l with
    | nil => simp [pdAll, PyData.eqvAll]
    | cons a l ih => simp [pdAll, pd, PyData.eqvAll, PyData.eqv, ih]
  simp only [inD, pd, PyData.eqv]
  exact main l
theorem cut1 (xs : List D) : cutD xs (some 1) none = xs.drop 1 := by
  unfold cutD
  rw [HT.sIx_none, show HT.sIx xs.length 0 (some 1) = min 1 xs.length from HT.sIx_nat _ _ 1]
  cases xs with
  | nil => rfl
  | cons a r =>
    rw [show min 1 (a :: r).length = 1 by rw [List.length_cons]; omega]
    exact List.take_of_length_le (by rw [List.length_drop]; omega)
theorem zip_ints (fs : List Int) (f g : Bool) : zipD (fs.map .int) f (cutD (fs.map .int) (some 1) none) g = (fs.zip (fs.drop 1)).map fun q => (.tup [.int q.1, .int q.2], f && g) := by
  unfold zipD
  rw [cut1, ← List.map_drop, List.zip_map, List.map_map]
  rfl
theorem p__law_run_right : PM fs__law_run_right w__law_run_right ["_law_draws_here", "_law_size", "_law_sides_here", "_law_kept", "_law_still", "_law_steps", "_law_later", "_law_before", "_law_due", "_law_told", "_law_side", "_law_more", "_law_one", "_law_two", "_law_both", "_law_spot", "_law_less"] := by
  rintro os ds Q ⟨k, n, l, rfl, ok, hd, hk, q⟩
  show w__law_run_right _ [some (.ino (.lst os)), some (.dat (.int n) false), some (.dat (arD l) false), none, none, none, none, none, none, none, none, none, none, none, none, none, none]
  have n1 := ok.n1
  have n2 := ok.n12
  have ll := ok.len
  have sl : Sh 2 400 (arD l) := .ars n2 ok.rng ll
  have rl := sl.rep
  have kl := sl.okS
  subst_eqs
  constructor
  · exact rl
  subst_eqs
  refine ⟨n, l, rfl, ok, ?_⟩
  subst_eqs
  refine ⟨trivial, ?_⟩
  subst_eqs
  refine ⟨hd.flt, k, n, l, 60, rfl, by omega, n2, ll, by decide, by decide, hd, by omega, fun os1 ts fr hd1 lt lg => ?_⟩
  subst_eqs
  have st : Sh 1 242 (inD ts) := .ins (n := 60) (fun i hi => by have := lg.rng i hi; omega) lt
  have rt := st.rep
  have kt := st.okS
  have o2 : Ok n (srt (ply l ts)) := (ok.ply ts).srt
  have sa : Sh 2 400 (arD (srt (ply l ts))) := .ars n2 o2.rng o2.len
  have ra := sa.rep
  have ka := sa.okS
  have sb := Sh.two sa sa
  have rb := sb.rep
  have kb := sb.okS
  have sc : Sh 3 806 (.lst [arD l, inD ts]) := Sh.two sl st.up
  have rc := sc.rep
  have kc := sc.okS
  constructor
  · exact rt
  subst_eqs
  refine ⟨ply l ts, rfl, by rw [ply_len]; omega, fun fr2 => ?_⟩
  subst_eqs
  refine ⟨n, l, ts, rfl, ok, lg, ?_⟩
  subst_eqs
  refine ⟨rfl, n, l, ts, rfl, ok, lg, ?_⟩
  subst_eqs
  refine ⟨size_ok (by simp), ?_⟩
  subst_eqs
  constructor
  · exact rb
  subst_eqs
  refine ⟨size_ok (by simp), ?_⟩
  subst_eqs
  constructor
  · exact rb
  subst_eqs
  constructor
  · exact ⟨kb, kb⟩
  with_reducible conv => whnf
  refine bF (ne_str ?_) ?_
  · rfl
  subst_eqs
  refine ⟨size_ok (by simp), ?_⟩
  subst_eqs
  constructor
  · exact rc
  subst_eqs
  have z1 : (pd (arD l)).shown.length ≤ 400 := Nat.le_trans (shown_sz _ sl.s).1 sl.z
  have z2 : (pd (inD ts)).shown.length ≤ 242 := Nat.le_trans (shown_sz _ st.s).1 st.z
  have q1 : (("[" : String) : Str).length = 1 := rfl
  have q2 : ((", " : String) : Str).length = 2 := rfl
  have q3 : (("]" : String) : Str).length = 1 := rfl
  refine ⟨size_ok (by omega), ?_⟩
  subst_eqs
  refine ⟨size_ok (by rw [strLen_append]; omega), ?_⟩
  subst_eqs
  refine ⟨size_ok (by rw [strLen_append, strLen_append]; omega), ?_⟩
  subst_eqs
  refine ⟨size_ok (by rw [strLen_append, strLen_append, strLen_append]; omega), ?_⟩
  subst_eqs
  have kc2 := kc
  rw [shown_two] at kc2
  constructor
  · exact ⟨kc, kc2⟩
  with_reducible conv => whnf
  refine bF (ne_str ?_) ?_
  · exact shown_two _ _
  subst_eqs
  have L : (srt (ply l ts)).length ≤ 30 := o2.len
  have pl : plainAll [arD (srt (ply l ts)), arD (srt (ply l ts))] = true := plainAll_of fun d hd => by
    have e : d = arD (srt (ply l ts)) := by simpa using hd
    rw [e]
    unfold Y.plain
    exact plain_prs _
  refine ⟨[arD (srt (ply l ts)), arD (srt (ply l ts))], (srt (ply l ts)).map (fun p => [.int p.1, .int p.2]), rfl, (by show 10 < 17; decide), pl, by rw [List.map_map]; rfl, by simp, fun fs hf => ?_, ?_⟩
  · obtain ⟨p, _, rfl⟩ := List.mem_map.mp hf
    rw [List.length_map]
    exact size_lt (by show 2 + 0 + _ ≤ _; omega)
  subst_eqs
  generalize h : out _ = Γ0
  obtain ⟨b10, e1⟩ : ∃ b10, Γ0 = [some (.ino (.lst os1)), some (.dat (.int n) false), some (.dat (arD l) false), some (.dat (.str (pd (arD l)).shown) false), some (.dat (inD (brd n l)) false), some (.dat (inD ts) false), some (.dat (arD (ply l ts)) false), some (.dat (.str (pd (inD ts)).shown) false), some (.dat (arD (srt (ply l ts))) false), none, b10, none, none, none, none, none, none] := by
    have h2 : outS (some (.ino (.lst os1))) :: _ = Γ0 := h
    rw [show outS (some (.ino (.lst os1))) = some (.ino (.lst os1)) from if_pos hd1.flt] at h2
    exact ⟨_, h2.symm⟩
  clear h
  subst e1
  refine ⟨n, l, ts, rfl, ok, lg, ?_⟩
  subst_eqs
  constructor
  · exact ra
  subst_eqs
  constructor
  · exact ra
  subst_eqs
  constructor
  · exact ⟨ka, ka⟩
  with_reducible conv => whnf
  refine bF (ne_str ?_) ?_
  · rfl
  subst_eqs
  refine ⟨size_ok (by rw [List.length_map, List.length_map]; omega), ?_⟩
  rw [show List.map (fun d => (d, false)) (List.map D.int ts) = ts.map fun t => (.int t, false) from List.map_map ..]
  refine lc_map ts (fun t => (.int t, false)) (fun _ => none) dep0 (fun t ht KT KF kk => ?_) ?_
  · subst_eqs
    refine ⟨⟨rfl, okD_in _⟩, ?_⟩
    rw [any_in]
    subst_eqs
    refine bF (yF (brd_still ok lg ht)) ?_
    subst_eqs
    exact kk _ (by rfl)
  rw [show ts.filterMap (fun _ => (none : Option (D × Bool))) = [] from List.filterMap_eq_nil_iff.mpr fun _ _ => rfl]
  subst_eqs
  refine ⟨size_ok (by simp), ?_⟩
  subst_eqs
  refine ⟨⟨okD_in [], okD_in []⟩, ?_⟩
  rw [eqvD_nil]
  refine bF (nT (yT rfl)) ?_
  subst_eqs
  refine ⟨n, _, rfl, o2, ?_⟩
  subst_eqs
  refine ⟨n, _, rfl, by omega, n2, L, o2.rng, ?_⟩
  with_reducible conv => whnf
  constructor
  · exact ⟨okD_in _, okD_in _⟩
  with_reducible conv => whnf
  refine bF (nT (eqv_in _)) ?_
  subst_eqs
  refine ⟨size_ok (by rw [List.length_map, List.length_map]; have := brd_len n l; omega), ?_⟩
  rw [show List.map (fun d => (d, false)) (List.map D.int (brd n l)) = (brd n l).map fun t => (.int t, false) from List.map_map ..]
  refine lc_map (brd n l) (fun t => (.int t, false)) (fun _ => none) dep0 (fun t ht KT KF kk => ?_) ?_
  · subst_eqs
    refine ⟨⟨rfl, okD_in _⟩, ?_⟩
    rw [any_in]
    subst_eqs
    refine bF (nT (yT (brd_grow ok lg ht))) ?_
    subst_eqs
    exact kk _ (by rfl)
  rw [show (brd n l).filterMap (fun _ => (none : Option (D × Bool))) = [] from List.filterMap_eq_nil_iff.mpr fun _ _ => rfl]
  subst_eqs
  refine ⟨size_ok (by simp), ?_⟩
  subst_eqs
  refine ⟨⟨okD_in [], okD_in []⟩, ?_⟩
  rw [eqvD_nil]
  refine bF (nT (yT rfl)) ?_
  subst_eqs
  refine ⟨rfl, ?_⟩
  refine for_pre l (fun p => (prD p, false)) (fun pre Γ => ∃ a9 a10 a12 a13 a14, Γ = [some (.ino (.lst os1)), some (.dat (.int n) false), some (.dat (arD l) false), some (.dat (.str (pd (arD l)).shown) false), some (.dat (inD (brd n l)) false), some (.dat (inD ts) false), some (.dat (arD (ply l ts)) false), some (.dat (.str (pd (inD ts)).shown) false), some (.dat (arD (srt (ply l ts))) false), a9, a10, some (.dat (inD (brd n (srt (ply l ts)))) true), a12, a13, a14, none, none]) ⟨_, _, _, _, _, rfl⟩ ?_ ?_ ?_
  · rintro pre p r Γ N e ⟨a9, a10, a12, a13, a14, rfl⟩ hN
    have hp : p ∈ l := by rw [e]; simp
    obtain ⟨x, y⟩ := p
    have hxy : x ≠ y := (ok.rng _ hp).2.2
    have al := alt_zip hxy (lg.alt hp (.inl ⟨rfl, rfl⟩))
    have fl : (ts.filter fun t => decide (t = x ∨ t = y)).length ≤ ts.length := List.length_filter_le ..
    subst_eqs
    refine ⟨size_ok (by rw [List.length_map, List.length_map]; omega), ?_⟩
    rw [show List.map (fun d => (d, false)) (List.map D.int ts) = ts.map fun t => (.int t, false) from List.map_map ..]
    refine lc_filS ts (fun t => (.int t, false)) (fun t => decide (t = x ∨ t = y)) .int dep0 (fun t ht KT KF kk => ?_) ?_ rfl
    · subst_eqs
      by_cases e1 : t = x
      · refine bT (yT e1) ?_
        rw [if_pos (decide_eq_true (.inl e1))] at kk
        subst_eqs
        exact kk _ (by rfl)
      · refine bF (yF e1) ?_
        subst_eqs
        by_cases e2 : t = y
        · refine bT (yT e2) ?_
          rw [if_pos (decide_eq_true (.inr e2))] at kk
          subst_eqs
          exact kk _ (by rfl)
        · refine bF (yF e2) ?_
          rw [if_neg (by simp [e1, e2])] at kk
          subst_eqs
          exact kk _ (by rfl)
    generalize (ts.filter fun t => decide (t = x ∨ t = y)) = fs at al fl
    subst_eqs
    rw [zip_ints]
    refine ⟨size_ok (by rw [List.length_map, List.length_zip]; omega), ?_⟩
    refine lc_map (fs.zip (fs.drop 1)) _ (fun _ => none) dep0 (fun q hq KT KF kk => ?_) ?_
    · have nq : ¬ q.1 = q.2 := fun z => by
        have w : q ∈ (fs.zip (fs.drop 1)).filter fun q => decide (q.1 = q.2) := List.mem_filter.mpr ⟨hq, decide_eq_true z⟩
        rw [al] at w
        cases w
      subst_eqs
      refine bF (yF nq) ?_
      subst_eqs
      exact kk _ (by rfl)
    rw [show (fs.zip (fs.drop 1)).filterMap (fun _ => (none : Option (D × Bool))) = [] from List.filterMap_eq_nil_iff.mpr fun _ _ => rfl]
    subst_eqs
    refine ⟨size_ok (by simp), ?_⟩
    subst_eqs
    refine ⟨⟨okD_in [], okD_in []⟩, ?_⟩
    rw [eqvD_nil]
    refine bF (nT (yT rfl)) ?_
    subst_eqs
    exact hN _ ⟨_, _, _, _, _, rfl⟩
  · rintro Γ ⟨a9, a10, a12, a13, a14, rfl⟩
    have o3 : Ok n (srt l) := ok.srt
    have sd : Sh 2 400 (arD (srt l)) := .ars n2 o3.rng o3.len
    have rd := sd.rep
    have kd := sd.okS
    subst_eqs
    refine ⟨size_ok (by simp), ?_⟩
    subst_eqs
    refine ⟨n, l, [], rfl, ok, trivial, ?_⟩
    subst_eqs
    constructor
    · exact rd
    subst_eqs
    refine ⟨l, rfl, by omega, fun fr3 => ?_⟩
    subst_eqs
    constructor
    · exact rd
    subst_eqs
    constructor
    · exact ⟨kd, kd⟩
    with_reducible conv => whnf
    refine ⟨hd1.flt, ?_⟩
    show Q os1 (D.bl ((pd (D.str (pd (arD (srt l))).shown)).eqv (pd (D.str (pd (arD (srt l))).shown)))) true
    rw [eq_str rfl]
    exact q _ (hd1.up (by omega))
  · exact List.map_map ..
end Q

/-! Q, part 21: law. -/
namespace Q
open PySem L2 Y
-- the head of a wp, unfolded, through tests that are told
local macro_rules | `(tactic| subst_eqs) => `(tactic| ((with_reducible conv => whnf); repeat ((with_reducible first | refine bT rfl ?_ | refine bF rfl ?_ | refine dT rfl ?_ | refine dF rfl ?_ | refine bF (nT rfl) ?_ | refine bT (nF rfl) ?_); (with_reducible conv => whnf))))
theorem srt_of {l m : Ar} (p : l.Perm m) (h : m.Pairwise fun p q => ¬ L4 (min q.1 q.2) (max q.1 q.2) q.1 q.2 (min p.1 p.2) (max p.1 p.2) p.1 p.2) : srt l = m :=
  sorted_eq ((srt_perm l).trans p) (srt_sorted l) (h.imp fun {a b} z => by rw [le4, Bool.not_eq_true', decide_eq_false_iff_not]; exact z)
theorem ln_all {α : Type} {tg : WG} {te : WE} {vs : List Nat} {Γ : En} {K : List (List D) → En → Prop} {its : List (D × Bool)} (l : List α) (src : α → D × Bool) (R : List D → Prop)
    (h : ∀ a ∈ l, ∀ (KK : List D → En → Prop), (∀ os, R os → KK os Γ) → tg (src a).1 (src a).2 (wp Γ vs) fun Γ1 => te ex0 Γ1 fun d _ Γ2 => match d with
      | .lst os => os.all flt = true ∧ KK os (rs Γ Γ2 vs)
      | _ => False) (k : ∀ oss, (∀ os ∈ oss, R os) → K oss Γ) (hi : its = l.map src := by rfl) : lnGo tg te vs its [] Γ K := by
  subst hi
  have main : ∀ (l : List α) (acc : List (List D)), (∀ a ∈ l, ∀ (KK : List D → En → Prop), (∀ os, R os → KK os Γ) → tg (src a).1 (src a).2 (wp Γ vs) fun Γ1 => te ex0 Γ1 fun d _ Γ2 => match d with
      | .lst os => os.all flt = true ∧ KK os (rs Γ Γ2 vs)
      | _ => False) → (∀ os ∈ acc, R os) → lnGo tg te vs (l.map src) acc Γ K := by
    intro l
    induction l with
    | nil => exact fun acc _ ha => k acc ha
    | cons a l ih =>
      intro acc h ha
      refine h a List.mem_cons_self (fun os Γ' => lnGo tg te vs (l.map src) (acc ++ [os]) Γ' K) fun os ho => ?_
      refine ih _ (fun b hb => h b (List.mem_cons_of_mem _ hb)) fun o ho2 => ?_
      rcases List.mem_append.mp ho2 with z | z
      · exact ha o z
      · rw [List.mem_singleton.mp z]
        exact ho
  exact main l [] h fun _ z => by cases z
theorem fn_all {i : Nat} {body : WS} {P : DE} (R : List D → Prop) (I : En → Prop)
    (h : ∀ os Γ (N B : En → Prop), R os → I Γ → (∀ Γ', I (und false Γ') → N Γ') → body { nx := N, ct := N, bk := B, rt := fun d fr Γ2 => P.rt d fr (und false Γ2), xe := P.xe } (st (dim false Γ) i (some (.ino (.lst os)))))
    (he : ∀ Γ, I Γ → P.nx Γ) : ∀ (oss : List (List D)) (Γ : En), (∀ os ∈ oss, R os) → I Γ → fnGo i body P oss Γ
  | [], Γ, _, g => he Γ g
  | os :: r, Γ, hr, g => h os Γ _ _ (hr os List.mem_cons_self) g fun Γ' g' => fn_all R I h he r _ (fun o ho => hr o (List.mem_cons_of_mem _ ho)) g'
theorem cut_pre (ns : List Int) : ∃ cs : List Int, cs.length ≤ 6 ∧ cutD (ns.map D.int) none (some 6) = cs.map D.int := by
  refine ⟨(ns.take 6), List.length_take_le .., ?_⟩
  unfold cutD
  rw [HT.sIx_none, show HT.sIx (ns.map D.int).length (ns.map D.int).length (some 6) = min 6 (ns.map D.int).length from HT.sIx_nat _ _ 6, List.drop_zero, ← List.map_take]
  refine congrArg _ ?_
  by_cases h : 6 ≤ ns.length
  · rw [List.length_map, Nat.min_eq_left h]
  · rw [List.length_map, Nat.min_eq_right (by omega), List.take_of_length_le (by omega), List.take_of_length_le (by omega)]
theorem ok3 : Ok 3 [(1, 2), (1, 3), (2, 3)] := ⟨by decide, by decide, by decide, by unfold inR; decide, by decide, fun k h1 h2 => by
  have e : k = 1 ∨ k = 2 ∨ k = 3 := by omega
  rcases e with rfl | rfl | rfl
  · exact .refl _
  · exact .step (.refl _) (.inl (by decide))
  · exact .step (.refl _) (.inl (by decide))⟩
theorem ok3b : Ok 3 [(3, 1), (1, 2), (2, 3)] := ⟨by decide, by decide, by decide, by unfold inR; decide, by decide, fun k h1 h2 => by
  have e : k = 1 ∨ k = 2 ∨ k = 3 := by omega
  rcases e with rfl | rfl | rfl
  · exact .refl _
  · exact .step (.refl _) (.inl (by decide))
  · exact .step (.refl _) (.inr (by decide))⟩
theorem ok1 : Ok 1 [] := ⟨by decide, by decide, by decide, by unfold inR; decide, by decide, fun k h1 h2 => by
  have e : k = 1 := by omega
  subst e
  exact .refl _⟩
abbrev ring7 : Ar := [(1, 2), (2, 3), (3, 1), (3, 4), (5, 1), (6, 5), (6, 7)]
theorem ok7 : Ok 7 ring7 := ⟨by decide, by decide, by decide, by unfold inR; decide, by decide, fun k h1 h2 => by
  have e : k = 1 ∨ k = 2 ∨ k = 3 ∨ k = 4 ∨ k = 5 ∨ k = 6 ∨ k = 7 := by omega
  have r3 : Rch ring7 1 3 := .step (.refl _) (.inr (by decide))
  have r5 : Rch ring7 1 5 := .step (.refl _) (.inr (by decide))
  have r6 : Rch ring7 1 6 := .step r5 (.inr (by decide))
  rcases e with rfl | rfl | rfl | rfl | rfl | rfl | rfl
  · exact .refl _
  · exact .step (.refl _) (.inl (by decide))
  · exact r3
  · exact .step r3 (.inl (by decide))
  · exact r5
  · exact r6
  · exact .step r6 (.inl (by decide))⟩
theorem legal1 : legal 1 [] [1, 1, 1, 1, 1, 1, 1, 1, 1] := ⟨by decide +kernel, by decide +kernel, by decide +kernel, by decide +kernel, by decide +kernel, by decide +kernel, by decide +kernel, by decide +kernel, by decide +kernel, trivial⟩
theorem p_law : ∀ ns : List Int, ns.length ≤ 63 → w_law { nx := fun _ => False, rt := fun d _ _ => d = .bl true } (startL ["_law_script", "_law_draws_here", "_law_three", "_law_ring", "_law_most", "_law_size", "_law_sides_here", "_law_cell"] ns) := by
  intro ns hn
  show w_law _ [some (.scr ns), none, none, none, none, none, none, none]
  obtain ⟨cs, hc, ec⟩ := cut_pre ns
  subst_eqs
  rw [ec]
  refine ⟨size_ok (by simp), ?_⟩
  subst_eqs
  refine ⟨size_ok (by rw [List.length_map]; show _ + 1 ≤ _; omega), ?_⟩
  subst_eqs
  refine ⟨rfl, size_ok (by rw [List.length_map, List.length_append, List.length_map]; show _ + 1 ≤ _; omega), ?_⟩
  refine ln_all (cs ++ [0]) (fun c => (.int c, true)) (Dr 0) (fun c hcc KK kk => ?_) (fun oss ho => ?_) (by
    show List.map (fun d => (d, true)) (List.map D.int cs ++ [D.int 0]) = _
    rw [List.map_append, List.map_append, List.map_map]
    rfl)
  · subst_eqs
    refine ⟨c, rfl, fun os dr => ?_⟩
    exact ⟨os, rfl, rfl, dr.flt, dr.flt, kk os dr⟩
  refine fn_all (Dr 0) (fun Γ => ∃ a0 a1 a2 a3 a4 a5 a6 a7, Γ = [a0, a1, a2, a3, a4, a5, a6, a7]) ?_ ?_ oss _ ho ⟨_, _, _, _, _, _, _, _, rfl⟩
  · rintro os Γ N B dr ⟨a0, a1, a2, a3, a4, a5, a6, a7, rfl⟩ hN
    subst_eqs
    refine ⟨size_ok (by simp), ?_⟩
    subst_eqs
    refine ⟨rfl, ?_⟩
    refine for_pre [12, 5] (fun (m : Int) => (.int m, true)) (fun pre Γ => ∃ os' b0 b2 b3 b4 b5 b6 b7, Γ = [b0, some (.ino (.lst os')), b2, b3, b4, b5, b6, b7] ∧ Dr (10000 * pre.length) os') ⟨os, _, _, _, _, _, _, _, rfl, dr⟩ ?_ ?_ rfl
    · rintro pre m r Γ N2 e ⟨os2, b0, b2, b3, b4, b5, b6, b7, rfl, dr2⟩ hN2
      have hm : 1 ≤ m ∧ m ≤ 12 := by
        have h : m ∈ ([12, 5] : List Int) := by rw [e]; simp
        simp at h
        omega
      have hl : pre.length ≤ 1 := by
        have := congrArg List.length e
        rw [List.length_append, List.length_cons] at this
        simp at this
        omega
      subst_eqs
      refine ⟨trivial, ?_⟩
      subst_eqs
      refine ⟨dr2.flt, _, rfl, dr2, by omega, fun os3 v hd3 => ?_⟩
      subst_eqs
      refine ⟨(by omega : (0 : Int) < m), ?_⟩
      have bv := Bd.mod v (A := m) (by omega)
      unfold Bd at bv
      subst_eqs
      refine ⟨trivial, ?_⟩
      subst_eqs
      refine ⟨trivial, ?_⟩
      subst_eqs
      refine ⟨hd3.flt, _, 1 + v % m, 33, rfl, by omega, by omega, by decide, by decide, hd3, by omega, fun os4 l fr hd4 bl => ?_⟩
      subst_eqs
      refine ⟨hd4.flt, _, 1 + v % m, l, rfl, by omega, by omega, bl, hd4, by omega, fun os5 l2 fr2 hd5 ok => ?_⟩
      subst_eqs
      refine ⟨trivial, ?_⟩
      subst_eqs
      refine ⟨hd5.flt, _, 1 + v % m, l2, rfl, ok, hd5, by omega, fun os6 hd6 => ?_⟩
      subst_eqs
      refine ⟨trivial, ?_⟩
      subst_eqs
      refine ⟨hd6.flt, _, 1 + v % m, l2, rfl, ok, hd6, by omega, fun os7 hd7 => ?_⟩
      subst_eqs
      exact hN2 _ ⟨os7, _, _, _, _, _, _, _, rfl, hd7.up (by rw [List.length_append, List.length_singleton]; omega)⟩
    · rintro Γ ⟨os2, b0, b2, b3, b4, b5, b6, b7, rfl, dr2⟩
      exact hN _ ⟨_, _, _, _, _, _, _, _, rfl⟩
  rintro Γ ⟨a0, a1, a2, a3, a4, a5, a6, a7, rfl⟩
  subst_eqs
  have sz : ∀ {α : Type} (l : List α), l.length ≤ 20 → l.length ≤ sizeLine := fun l h => size_ok (by omega)
  refine ⟨sz _ (by decide), ?_⟩
  subst_eqs
  refine ⟨sz _ (by decide), ?_⟩
  subst_eqs
  refine ⟨sz _ (by decide), ?_⟩
  subst_eqs
  refine ⟨sz _ (by decide), ?_⟩
  subst_eqs
  refine ⟨3, [(1, 2), (1, 3), (2, 3)], rfl, ok3, ?_⟩
  subst_eqs
  refine ⟨3, [(1, 2), (1, 3), (2, 3)], 3, rfl, ok3, by decide +kernel, ?_⟩
  subst_eqs
  rw [show mayI 3 [(1, 2), (1, 3), (2, 3)] = [3] by decide +kernel, show srt (trn [(1, 2), (1, 3), (2, 3)] 3) = [(1, 2), (3, 1), (3, 2)] from srt_of (by decide +kernel) (by decide +kernel)]
  subst_eqs
  repeat (refine ⟨sz _ (by decide), ?_⟩; subst_eqs)
  constructor
  · constructor <;> decide +kernel
  with_reducible conv => whnf
  refine bF (by decide +kernel) ?_
  subst_eqs
  repeat (refine ⟨sz _ (by decide), ?_⟩; subst_eqs)
  refine ⟨3, [(3, 1), (1, 2), (2, 3)], rfl, ok3b, ?_⟩
  subst_eqs
  rw [show brd 3 [(3, 1), (1, 2), (2, 3)] = [1, 2, 3] by decide +kernel]
  subst_eqs
  repeat (refine ⟨sz _ (by decide), ?_⟩; subst_eqs)
  constructor
  · constructor <;> decide +kernel
  with_reducible conv => whnf
  refine bF (by decide +kernel) ?_
  subst_eqs
  repeat (refine ⟨sz _ (by decide), ?_⟩; subst_eqs)
  refine ⟨1, [], rfl, ok1, ?_⟩
  subst_eqs
  repeat (refine ⟨sz _ (by decide), ?_⟩; subst_eqs)
  refine ⟨1, [], 1, rfl, ok1, by decide +kernel, ?_⟩
  subst_eqs
  repeat (refine ⟨sz _ (by decide), ?_⟩; subst_eqs)
  refine ⟨⟨by decide +kernel, by decide +kernel, size_ok (by decide)⟩, ?_⟩
  subst_eqs
  refine ⟨1, [], [1, 1, 1, 1, 1, 1, 1, 1, 1], rfl, ok1, legal1, ?_⟩
  subst_eqs
  repeat (refine ⟨sz _ (by decide), ?_⟩; subst_eqs)
  refine ⟨1, [], rfl, ok1, ?_⟩
  subst_eqs
  rw [show mayI 1 [] = [1] by decide +kernel, show srt (trn [] 1) = [] from srt_of (by decide +kernel) (by decide +kernel), show srt (ply [] [1, 1, 1, 1, 1, 1, 1, 1, 1]) = [] from srt_of (by decide +kernel) (by decide +kernel), show brd 1 [] = [] by decide +kernel]
  repeat (refine ⟨sz _ (by decide), ?_⟩; subst_eqs)
  constructor
  · constructor <;> decide +kernel
  with_reducible conv => whnf
  refine bF (by decide +kernel) ?_
  subst_eqs
  repeat (refine ⟨sz _ (by decide), ?_⟩; subst_eqs)
  refine ⟨7, ring7, rfl, ok7, ?_⟩
  subst_eqs
  refine ⟨7, ring7, rfl, ok7, ?_⟩
  subst_eqs
  rw [show mayI 7 ring7 = [4, 7] by decide +kernel, show brd 7 ring7 = [1, 2, 3, 5, 6] by decide +kernel]
  repeat (refine ⟨sz _ (by decide), ?_⟩; subst_eqs)
  constructor
  · constructor <;> decide +kernel
  with_reducible conv => whnf
  refine bF (by decide +kernel) ?_
  subst_eqs
  repeat (refine ⟨sz _ (by decide), ?_⟩; subst_eqs)
  refine ⟨3, [(1, 2), (1, 3), (2, 3)], [3, 2, 1], rfl, ok3, ⟨by decide +kernel, by decide +kernel, by decide +kernel, trivial⟩, ?_⟩
  subst_eqs
  rw [show srt (ply [(1, 2), (1, 3), (2, 3)] [3, 2, 1]) = [(1, 2), (1, 3), (2, 3)] from srt_of (by decide +kernel) (by decide +kernel)]
  constructor
  · constructor <;> decide +kernel
  with_reducible conv => whnf
  exact congrArg D.bl (by decide +kernel)
end Q

namespace G
open PySem PySem.Spec PyProof.Rows L2 Y Q
def top (i : Nat) : Stmt := PySem.Challenge.pw_yieldturns_k01_standings.main.body.getD i (.Pass ⟨0, 0, 0, 0⟩)
theorem kbndN {K : PySem.W.Frag} {x qual : Str} {params : Arguments} {body : List Stmt} {scope : Scope} {f : Addr} {fd : FuncData} {ps ks : List Str} {ix : List Nat} (F : FunD K x qual params body scope [] [] f fd)
    (h : ∀ (kV doc pm : Value) (an : Option Addr) (cdv ct : Value) (ws : List Value), ws.length = ks.length → bindArgs (PySem.W.fnOf x qual params body scope .none kV doc pm an cdv ct) ⟨[], ks.zip ws⟩ = pure (ps.zip (pmG ix ws))) : KBnd K fd ps ks ix := by
  obtain ⟨oc, od, dV, kV, doc, pm, an, cdv, ct, osl, rfl, lk, hcd, hD, hK⟩ := F.ex
  rcases hD with ⟨_, rfl⟩ | ⟨e, _⟩
  · exact fun s ws _ hl => .of_eq (h kV doc pm an cdv ct ws hl)
  · exact absurd rfl e
abbrev st__law_draws : Stmt := top 31
theorem sc__law_draws : FnScope ["_law_cell"] ["_law_cell"] (defScope st__law_draws) := ⟨rfl, rfl, rfl, by decide +kernel, rfl, by decide +kernel, by decide +kernel⟩
theorem d__law_draws {P : Program} {w : World} {K : PySem.W.Frag} {mg : Str → Option Value} {base : Heap} {f : Addr} {cdv : Value} {A : Around} {outer : List Env} {s : Shared} {H : Hp} {E : XK} (B : FreeB mg) (hg : (A.deeper (envOfC "_law_draws" (defScope st__law_draws) s.heap.objs.size f cdv)).guards = some []) (hr : Room 0 (A.deeper (envOfC "_law_draws" (defScope st__law_draws) s.heap.objs.size f cdv))) :
    PWSs (bX P w K mg base ["_law_cell"] "_law_draws" (defScope st__law_draws) f cdv A outer s H E) E (defBody st__law_draws) w__law_draws :=
  pws_one (pws_ret (pw_lst (pwa_cons (pw_bin o_mod (pw_t1 o_int B.int rfl (pv_name 0)) (pw_bin o_pow (pw_bin o_pow (pw_bin o_pow (pw_int) (pw_int)) (pw_int)) (pw_int))) (pwa_cons (pw_int) (pwa_cons (pw_cmp o_ge (pw_var 0) (pw_bin o_pow (pw_int) (pw_int))) (pwa_nil))))))
theorem g__law_draws {P : Program} {w : World} {K : PySem.W.Frag} {mg : Str → Option Value} {base : Heap} {fa : Addr} {fd : FuncData} (B : FreeB mg)  (F : FunD K "_law_draws" "_law_draws" (defArgs st__law_draws) (defBody st__law_draws) (defScope st__law_draws) [] [] fa fd) : FnG P w K mg base 1 fa fd ["_law_cell"] (spF mg fs__law_draws) :=
  fn_pure F sc__law_draws (fun ds Q ex h => by obtain ⟨_, rfl, _⟩ := h; rfl) (fun cdv A outer s H E hg hr => d__law_draws B  hg hr) p__law_draws
theorem b__law_draws {K : PySem.W.Frag} {fa : Addr} {fd : FuncData} (F : FunD K "_law_draws" "_law_draws" (defArgs st__law_draws) (defBody st__law_draws) (defScope st__law_draws) [] [] fa fd) : Binds K fd ["_law_cell"] [] := F.bindsN fun _ _ _ _ _ _ us hl => match us, hl with | [_], _ => rfl
theorem c__law_draws {P : Program} {w : World} {K : PySem.W.Frag} {mg : Str → Option Value} {base : Heap} {fa : Addr} {fd : FuncData} (B : FreeB mg)  (F : FunD K "_law_draws" "_law_draws" (defArgs st__law_draws) (defBody st__law_draws) (defScope st__law_draws) [] [] fa fd) (m : mg "_law_draws" = some (.ref fa)) : CalD P w K mg base 1 "_law_draws" ["_law_cell"] (spF mg fs__law_draws) := ⟨fa, fd, g__law_draws B  F, m, F.kp, b__law_draws F⟩
abbrev st__law_next : Stmt := top 32
theorem sc__law_next : FnScope ["_law_draws_here", "_law_k", "_law_drawn"] ["_law_draws_here"] (defScope st__law_next) := ⟨rfl, rfl, rfl, by decide +kernel, rfl, by decide +kernel, by decide +kernel⟩
theorem d__law_next {P : Program} {w : World} {K : PySem.W.Frag} {mg : Str → Option Value} {base : Heap} {f : Addr} {cdv : Value} {A : Around} {outer : List Env} {s : Shared} {H : Hp} {E : XK} (B : FreeB mg) (hg : (A.deeper (envOfC "_law_next" (defScope st__law_next) s.heap.objs.size f cdv)).guards = some []) (hr : Room 0 (A.deeper (envOfC "_law_next" (defScope st__law_next) s.heap.objs.size f cdv))) :
    PWSs (bX P w K mg base ["_law_draws_here", "_law_k", "_law_drawn"] "_law_next" (defScope st__law_next) f cdv A outer s H E) E (defBody st__law_next) w__law_next :=
  pws_cons (pws_put 0 (u1 hr) (pw_bin o_add (pw_ix (u1 hr) (pv_name 0) (pw_int)) (pw_int)) (pw_int)) (pws_cons (pws_set 1 (pw_ix (u1 hr) (pv_name 0) (pw_int)) sc__law_next.nd) (pws_cons (pws_if (pwt_val (pw_ix (u1 hr) (pv_name 0) (pw_int))) (pws_cons (pws_set 2 (pw_bin o_mod (pw_t1 o_int B.int rfl (pv_of (pw_ix (u1 hr) (pv_name 0) (pw_int)))) (pw_bin o_pow (pw_int) (pw_int))) sc__law_next.nd) (pws_cons (pws_put 0 (u1 hr) (pw_bin o_fdiv (pw_ix (u1 hr) (pv_name 0) (pw_int)) (pw_bin o_pow (pw_int) (pw_int))) (pw_int)) (pws_one (pws_ret (pw_var 2))))) (pws_nil)) (pws_cons (pws_set 2 (pw_bin o_mod (pw_t1 o_int B.int rfl (pv_of (pw_bin o_mul (pw_bin o_add (pw_bin o_add (pw_bin o_mod (pw_t1 o_int B.int rfl (pv_of (pw_ix (u1 hr) (pv_name 0) (pw_int)))) (pw_int)) (pw_bin o_mul (pw_bin o_mul (pw_var 1) (pw_var 1)) (pw_int))) (pw_var 1)) (pw_int)))) (pw_int)) sc__law_next.nd) (pws_cons (pws_set 2 (pw_bin o_mod (pw_t1 o_int B.int rfl (pv_of (pw_bin o_mul (pw_var 2) (pw_var 2)))) (pw_int)) sc__law_next.nd) (pws_one (pws_ret (pw_bin o_fdiv (pw_bin o_mod (pw_t1 o_int B.int rfl (pv_of (pw_bin o_mul (pw_var 2) (pw_bin o_add (pw_var 2) (pw_int))))) (pw_int)) (pw_int))))))))
theorem g__law_next {P : Program} {w : World} {K : PySem.W.Frag} {mg : Str → Option Value} {base : Heap} {fa : Addr} {fd : FuncData} (B : FreeB mg)  (F : FunD K "_law_next" "_law_next" (defArgs st__law_next) (defBody st__law_next) (defScope st__law_next) [] [] fa fd) : FnG P w K mg base 1 fa fd ["_law_draws_here"] (spM fs__law_next) :=
  fn_pureM F sc__law_next (fun os ds Q h => by obtain ⟨_, rfl, _⟩ := h; rfl) (fun cdv A outer s H E hg hr => d__law_next B  hg hr) p__law_next
theorem b__law_next {K : PySem.W.Frag} {fa : Addr} {fd : FuncData} (F : FunD K "_law_next" "_law_next" (defArgs st__law_next) (defBody st__law_next) (defScope st__law_next) [] [] fa fd) : Binds K fd ["_law_draws_here"] [] := F.bindsN fun _ _ _ _ _ _ us hl => match us, hl with | [_], _ => rfl
theorem c__law_next {P : Program} {w : World} {K : PySem.W.Frag} {mg : Str → Option Value} {base : Heap} {fa : Addr} {fd : FuncData} (B : FreeB mg)  (F : FunD K "_law_next" "_law_next" (defArgs st__law_next) (defBody st__law_next) (defScope st__law_next) [] [] fa fd) (m : mg "_law_next" = some (.ref fa)) : CalD P w K mg base 1 "_law_next" ["_law_draws_here"] (spM fs__law_next) := ⟨fa, fd, g__law_next B  F, m, F.kp, b__law_next F⟩
abbrev st__law_shuffled : Stmt := top 33
theorem sc__law_shuffled : FnScope ["_law_draws_here", "_law_things", "_law_left", "_law_told"] ["_law_draws_here", "_law_things"] (defScope st__law_shuffled) := ⟨rfl, rfl, rfl, by decide +kernel, rfl, by decide +kernel, by decide +kernel⟩
theorem d__law_shuffled {P : Program} {w : World} {K : PySem.W.Frag} {mg : Str → Option Value} {base : Heap} {f : Addr} {cdv : Value} {A : Around} {outer : List Env} {s : Shared} {H : Hp} {E : XK} (B : FreeB mg) (C__law_next : CalD P w K mg base 1 "_law_next" ["_law_draws_here"] (spM fs__law_next)) (hg : (A.deeper (envOfC "_law_shuffled" (defScope st__law_shuffled) s.heap.objs.size f cdv)).guards = some []) (hr : Room 1 (A.deeper (envOfC "_law_shuffled" (defScope st__law_shuffled) s.heap.objs.size f cdv))) :
    PWSs (bX P w K mg base ["_law_draws_here", "_law_things", "_law_left", "_law_told"] "_law_shuffled" (defScope st__law_shuffled) f cdv A outer s H E) E (defBody st__law_shuffled) w__law_shuffled :=
  pws_cons (pws_setO 2 (pn_list B.list (pv_name 1) rfl) sc__law_shuffled.nd) (pws_cons (pws_setO 3 (pn_lst (pwa_nil)) sc__law_shuffled.nd) (pws_cons (pws_while own_fn (pwt_neV (u64 hr) (pv_name 2) (pw_lst (pwa_nil))) (pws_one (pws_expr (pw_app 3 (pw_popAt 2 (pw_bin o_mod (pw_t1 o_int B.int rfl (pv_of (pw_cm 0 C__law_next hg hr pass_fn (pwa_nil)))) (pw_b1 o_len B.len rfl (pv_name 2)))))))) (pws_one (pws_ret (pw_var 3)))))
theorem g__law_shuffled {P : Program} {w : World} {K : PySem.W.Frag} {mg : Str → Option Value} {base : Heap} {fa : Addr} {fd : FuncData} (B : FreeB mg) (C__law_next : CalD P w K mg base 1 "_law_next" ["_law_draws_here"] (spM fs__law_next)) (F : FunD K "_law_shuffled" "_law_shuffled" (defArgs st__law_shuffled) (defBody st__law_shuffled) (defScope st__law_shuffled) [] [] fa fd) : FnG P w K mg base 2 fa fd ["_law_draws_here", "_law_things"] (spM fs__law_shuffled) :=
  fn_pureM F sc__law_shuffled (fun os ds Q h => by obtain ⟨_, _, rfl, _⟩ := h; rfl) (fun cdv A outer s H E hg hr => d__law_shuffled B C__law_next hg hr) p__law_shuffled
theorem b__law_shuffled {K : PySem.W.Frag} {fa : Addr} {fd : FuncData} (F : FunD K "_law_shuffled" "_law_shuffled" (defArgs st__law_shuffled) (defBody st__law_shuffled) (defScope st__law_shuffled) [] [] fa fd) : Binds K fd ["_law_draws_here", "_law_things"] [] := F.bindsN fun _ _ _ _ _ _ us hl => match us, hl with | [_, _], _ => rfl
theorem c__law_shuffled {P : Program} {w : World} {K : PySem.W.Frag} {mg : Str → Option Value} {base : Heap} {fa : Addr} {fd : FuncData} (B : FreeB mg) (C__law_next : CalD P w K mg base 1 "_law_next" ["_law_draws_here"] (spM fs__law_next)) (F : FunD K "_law_shuffled" "_law_shuffled" (defArgs st__law_shuffled) (defBody st__law_shuffled) (defScope st__law_shuffled) [] [] fa fd) (m : mg "_law_shuffled" = some (.ref fa)) : CalD P w K mg base 2 "_law_shuffled" ["_law_draws_here", "_law_things"] (spM fs__law_shuffled) := ⟨fa, fd, g__law_shuffled B C__law_next F, m, F.kp, b__law_shuffled F⟩
abbrev st__law_bars : Stmt := top 34
theorem sc__law_bars : FnScope ["_law_draws_here", "_law_size", "_law_more", "_law_names", "_law_kind", "_law_told", "_law_at", "_law_step", "_law_one", "_law_two"] ["_law_draws_here", "_law_size", "_law_more"] (defScope st__law_bars) := ⟨rfl, rfl, rfl, by decide +kernel, rfl, by decide +kernel, by decide +kernel⟩
theorem d__law_bars {P : Program} {w : World} {K : PySem.W.Frag} {mg : Str → Option Value} {base : Heap} {f : Addr} {cdv : Value} {A : Around} {outer : List Env} {s : Shared} {H : Hp} {E : XK} (B : FreeB mg) (C__law_shuffled : CalD P w K mg base 2 "_law_shuffled" ["_law_draws_here", "_law_things"] (spM fs__law_shuffled)) (C__law_next : CalD P w K mg base 1 "_law_next" ["_law_draws_here"] (spM fs__law_next)) (hg : (A.deeper (envOfC "_law_bars" (defScope st__law_bars) s.heap.objs.size f cdv)).guards = some []) (hr : Room 2 (A.deeper (envOfC "_law_bars" (defScope st__law_bars) s.heap.objs.size f cdv))) :
    PWSs (bX P w K mg base ["_law_draws_here", "_law_size", "_law_more", "_law_names", "_law_kind", "_law_told", "_law_at", "_law_step", "_law_one", "_law_two"] "_law_bars" (defScope st__law_bars) f cdv A outer s H E) E (defBody st__law_bars) w__law_bars :=
  pws_cons (pws_set 3 (pw_cm 0 C__law_shuffled hg hr pass_fn (pwa_cons (pw_listRg2 rfl B.list B.range (pw_int) (pw_bin o_add (pw_var 1) (pw_int))) (pwa_nil))) sc__law_bars.nd) (pws_cons (pws_set 4 (pw_bin o_mod (pw_t1 o_int B.int rfl (pv_of (pw_cm 0 C__law_next hg hr pass_fn (pwa_nil)))) (pw_int)) sc__law_bars.nd) (pws_cons (pws_setO 5 (pn_lst (pwa_nil)) sc__law_bars.nd) (pws_cons (pws_for own_fn rfl (pi_rng2 B.range (pw_int) (pw_var 1)) (pg_nm 6 sc__law_bars.nd (by first | exact Or.inl rfl | exact Or.inr rfl)) (pws_one (pws_expr (pw_app 5 (pw_lst (pwa_cons (pw_ix (u1 hr) (pv_name 3) (pw_var 6)) (pwa_cons (pw_ix (u1 hr) (pv_name 3) (pw_ix (u1 hr) (pv_of (pw_lst (pwa_cons (pw_bin o_mod (pw_t1 o_int B.int rfl (pv_of (pw_cm 0 C__law_next hg hr pass_fn (pwa_nil)))) (pw_var 6)) (pwa_cons (pw_bin o_sub (pw_var 6) (pw_int)) (pwa_cons (pw_int) (pwa_cons (pw_bin o_fdiv (pw_bin o_sub (pw_var 6) (pw_int)) (pw_int)) (pwa_nil))))))) (pw_var 4))) (pwa_nil)))))))) (pws_cons (pws_for own_fn rfl (pi_rng1 B.range (pw_bin o_mod (pw_t1 o_int B.int rfl (pv_of (pw_cm 0 C__law_next hg hr pass_fn (pwa_nil)))) (pw_b2 (o_min2 rfl) B.min rfl (pw_var 2) (pw_ix (u1 hr) (pv_of (pw_lst (pwa_cons (pw_int) (pwa_cons (pw_int) (pwa_cons (pw_int) (pwa_cons (pw_int) (pwa_nil))))))) (pw_bin o_mod (pw_t1 o_int B.int rfl (pv_of (pw_cm 0 C__law_next hg hr pass_fn (pwa_nil)))) (pw_int)))))) (pg_nm 7 sc__law_bars.nd (by first | exact Or.inl rfl | exact Or.inr rfl)) (pws_cons (pws_par 8 9 (pm_dat (pw_bin o_add (pw_int) (pw_bin o_mod (pw_t1 o_int B.int rfl (pv_of (pw_cm 0 C__law_next hg hr pass_fn (pwa_nil)))) (pw_var 1)))) (pm_dat (pw_bin o_add (pw_int) (pw_bin o_mod (pw_t1 o_int B.int rfl (pv_of (pw_cm 0 C__law_next hg hr pass_fn (pwa_nil)))) (pw_var 1)))) (by decide) rfl sc__law_bars.nd rfl) (pws_one (pws_if (pwt_of (pww_and (pwt_cmp (o_ne (u64 hr)) (pw_var 8) (pw_var 9)) (pww_and (pwt_notin (u65 hr) (pw_lst (pwa_cons (pw_var 8) (pwa_cons (pw_var 9) (pwa_nil)))) (pv_name 5)) (pww_and (pwt_notin (u65 hr) (pw_lst (pwa_cons (pw_var 9) (pwa_cons (pw_var 8) (pwa_nil)))) (pv_name 5)) (pww_and1 (pwt_cmp o_lt (pw_b1 o_len B.len rfl (pv_name 5)) (pw_int))))))) (pws_one (pws_expr (pw_app 5 (pw_lst (pwa_cons (pw_var 8) (pwa_cons (pw_var 9) (pwa_nil))))))) (pws_nil))))) (pws_one (pws_ret (pw_cm 0 C__law_shuffled hg hr pass_fn (pwa_cons (pw_var 5) (pwa_nil)))))))))
theorem g__law_bars {P : Program} {w : World} {K : PySem.W.Frag} {mg : Str → Option Value} {base : Heap} {fa : Addr} {fd : FuncData} (B : FreeB mg) (C__law_shuffled : CalD P w K mg base 2 "_law_shuffled" ["_law_draws_here", "_law_things"] (spM fs__law_shuffled)) (C__law_next : CalD P w K mg base 1 "_law_next" ["_law_draws_here"] (spM fs__law_next)) (F : FunD K "_law_bars" "_law_bars" (defArgs st__law_bars) (defBody st__law_bars) (defScope st__law_bars) [] [] fa fd) : FnG P w K mg base 3 fa fd ["_law_draws_here", "_law_size", "_law_more"] (spM fs__law_bars) :=
  fn_pureM F sc__law_bars (fun os ds Q h => by obtain ⟨_, _, _, rfl, _⟩ := h; rfl) (fun cdv A outer s H E hg hr => d__law_bars B C__law_shuffled C__law_next hg hr) p__law_bars
theorem b__law_bars {K : PySem.W.Frag} {fa : Addr} {fd : FuncData} (F : FunD K "_law_bars" "_law_bars" (defArgs st__law_bars) (defBody st__law_bars) (defScope st__law_bars) [] [] fa fd) : Binds K fd ["_law_draws_here", "_law_size", "_law_more"] [] := F.bindsN fun _ _ _ _ _ _ us hl => match us, hl with | [_, _, _], _ => rfl
theorem c__law_bars {P : Program} {w : World} {K : PySem.W.Frag} {mg : Str → Option Value} {base : Heap} {fa : Addr} {fd : FuncData} (B : FreeB mg) (C__law_shuffled : CalD P w K mg base 2 "_law_shuffled" ["_law_draws_here", "_law_things"] (spM fs__law_shuffled)) (C__law_next : CalD P w K mg base 1 "_law_next" ["_law_draws_here"] (spM fs__law_next)) (F : FunD K "_law_bars" "_law_bars" (defArgs st__law_bars) (defBody st__law_bars) (defScope st__law_bars) [] [] fa fd) (m : mg "_law_bars" = some (.ref fa)) : CalD P w K mg base 3 "_law_bars" ["_law_draws_here", "_law_size", "_law_more"] (spM fs__law_bars) := ⟨fa, fd, g__law_bars B C__law_shuffled C__law_next F, m, F.kp, b__law_bars F⟩
abbrev st__law_sides : Stmt := top 35
theorem sc__law_sides : FnScope ["_law_draws_here", "_law_size", "_law_bars_here", "_law_ranks", "_law_one", "_law_two"] ["_law_draws_here", "_law_size", "_law_bars_here"] (defScope st__law_sides) := ⟨rfl, rfl, rfl, by decide +kernel, rfl, by decide +kernel, by decide +kernel⟩
theorem d__law_sides {P : Program} {w : World} {K : PySem.W.Frag} {mg : Str → Option Value} {base : Heap} {f : Addr} {cdv : Value} {A : Around} {outer : List Env} {s : Shared} {H : Hp} {E : XK} (B : FreeB mg) (C__law_next : CalD P w K mg base 1 "_law_next" ["_law_draws_here"] (spM fs__law_next)) (C__law_shuffled : CalD P w K mg base 2 "_law_shuffled" ["_law_draws_here", "_law_things"] (spM fs__law_shuffled)) (hg : (A.deeper (envOfC "_law_sides" (defScope st__law_sides) s.heap.objs.size f cdv)).guards = some []) (hr : Room 2 (A.deeper (envOfC "_law_sides" (defScope st__law_sides) s.heap.objs.size f cdv))) :
    PWSs (bX P w K mg base ["_law_draws_here", "_law_size", "_law_bars_here", "_law_ranks", "_law_one", "_law_two"] "_law_sides" (defScope st__law_sides) f cdv A outer s H E) E (defBody st__law_sides) w__law_sides :=
  pws_cons (pws_if (pwt_cmp (o_eq (u64 hr)) (pw_bin o_mod (pw_t1 o_int B.int rfl (pv_of (pw_cm 0 C__law_next hg hr pass_fn (pwa_nil)))) (pw_int)) (pw_int)) (pws_one (pws_ret (pw_lc (own := [("_law_one", 4), ("_law_two", 5)]) rfl sc__law_sides.nd (blkOk_by (by kernel_rfl)) (pi_lst (pv_name 2)) (fun _ _ _ _ _ => pg_tp (n := 2) rfl (pwg_cons (pg_nm 4 sc__law_sides.nd (by first | exact Or.inl rfl | exact Or.inr rfl)) (pwg_cons (pg_nm 5 sc__law_sides.nd (by first | exact Or.inl rfl | exact Or.inr rfl)) (pwg_nil))) (len_name (len_name (len_nil)))) (fun _ _ _ _ _ => pwts_nil) (fun _ _ _ _ _ => pw_slK (pv_of (pw_lst (pwa_cons (pw_var 4) (pwa_cons (pw_var 5) (pwa_nil))))) (pw_ix (u1 hr) (pv_of (pw_lst (pwa_cons (pw_int) (pwa_cons (pw_neg (pw_int)) (pwa_nil))))) (pw_bin o_mod (pw_t1 o_int B.int rfl (pv_of (pw_cm 0 C__law_next hg hr pass0 (pwa_nil)))) (pw_int)))) (by decide)))) (pws_nil)) (pws_cons (pws_set 3 (pw_cm 0 C__law_shuffled hg hr pass_fn (pwa_cons (pw_listRg1 rfl B.list B.range (pw_var 1)) (pwa_nil))) sc__law_sides.nd) (pws_one (pws_ret (pw_lc (own := [("_law_one", 4), ("_law_two", 5)]) rfl sc__law_sides.nd (blkOk_by (by kernel_rfl)) (pi_lst (pv_name 2)) (fun _ _ _ _ _ => pg_tp (n := 2) rfl (pwg_cons (pg_nm 4 sc__law_sides.nd (by first | exact Or.inl rfl | exact Or.inr rfl)) (pwg_cons (pg_nm 5 sc__law_sides.nd (by first | exact Or.inl rfl | exact Or.inr rfl)) (pwg_nil))) (len_name (len_name (len_nil)))) (fun _ _ _ _ _ => pwts_nil) (fun _ _ _ _ _ => pw_ifExp (pwt_cmp o_lt (pw_ix (u1 hr) (pv_name 3) (pw_bin o_sub (pw_var 4) (pw_int))) (pw_ix (u1 hr) (pv_name 3) (pw_bin o_sub (pw_var 5) (pw_int)))) (pw_lst (pwa_cons (pw_var 4) (pwa_cons (pw_var 5) (pwa_nil)))) (pw_lst (pwa_cons (pw_var 5) (pwa_cons (pw_var 4) (pwa_nil))))) (by decide)))))
theorem g__law_sides {P : Program} {w : World} {K : PySem.W.Frag} {mg : Str → Option Value} {base : Heap} {fa : Addr} {fd : FuncData} (B : FreeB mg) (C__law_next : CalD P w K mg base 1 "_law_next" ["_law_draws_here"] (spM fs__law_next)) (C__law_shuffled : CalD P w K mg base 2 "_law_shuffled" ["_law_draws_here", "_law_things"] (spM fs__law_shuffled)) (F : FunD K "_law_sides" "_law_sides" (defArgs st__law_sides) (defBody st__law_sides) (defScope st__law_sides) [] [] fa fd) : FnG P w K mg base 3 fa fd ["_law_draws_here", "_law_size", "_law_bars_here"] (spM fs__law_sides) :=
  fn_pureM F sc__law_sides (fun os ds Q h => by obtain ⟨_, _, _, rfl, _⟩ := h; rfl) (fun cdv A outer s H E hg hr => d__law_sides B C__law_next C__law_shuffled hg hr) p__law_sides
theorem b__law_sides {K : PySem.W.Frag} {fa : Addr} {fd : FuncData} (F : FunD K "_law_sides" "_law_sides" (defArgs st__law_sides) (defBody st__law_sides) (defScope st__law_sides) [] [] fa fd) : Binds K fd ["_law_draws_here", "_law_size", "_law_bars_here"] [] := F.bindsN fun _ _ _ _ _ _ us hl => match us, hl with | [_, _, _], _ => rfl
theorem c__law_sides {P : Program} {w : World} {K : PySem.W.Frag} {mg : Str → Option Value} {base : Heap} {fa : Addr} {fd : FuncData} (B : FreeB mg) (C__law_next : CalD P w K mg base 1 "_law_next" ["_law_draws_here"] (spM fs__law_next)) (C__law_shuffled : CalD P w K mg base 2 "_law_shuffled" ["_law_draws_here", "_law_things"] (spM fs__law_shuffled)) (F : FunD K "_law_sides" "_law_sides" (defArgs st__law_sides) (defBody st__law_sides) (defScope st__law_sides) [] [] fa fd) (m : mg "_law_sides" = some (.ref fa)) : CalD P w K mg base 3 "_law_sides" ["_law_draws_here", "_law_size", "_law_bars_here"] (spM fs__law_sides) := ⟨fa, fd, g__law_sides B C__law_next C__law_shuffled F, m, F.kp, b__law_sides F⟩
abbrev st_is_whole : Stmt := top 10
theorem sc_is_whole : FnScope ["thing"] ["thing"] (defScope st_is_whole) := ⟨rfl, rfl, rfl, by decide +kernel, rfl, by decide +kernel, by decide +kernel⟩
theorem d_is_whole {P : Program} {w : World} {K : PySem.W.Frag} {mg : Str → Option Value} {base : Heap} {f : Addr} {cdv : Value} {A : Around} {outer : List Env} {s : Shared} {H : Hp} {E : XK} (B : FreeB mg) (hg : (A.deeper (envOfC "is_whole" (defScope st_is_whole) s.heap.objs.size f cdv)).guards = some []) (hr : Room 0 (A.deeper (envOfC "is_whole" (defScope st_is_whole) s.heap.objs.size f cdv))) :
    PWSs (bX P w K mg base ["thing"] "is_whole" (defScope st_is_whole) f cdv A outer s H E) E (defBody st_is_whole) w_is_whole :=
  pws_one (pws_ret (pw_and (pw_isi kit_int B.isinstance B.int rfl rfl (pv_name 0)) (pw_one (pw_not (pw_isi kit_bool B.isinstance B.bool rfl rfl (pv_name 0))))))
theorem g_is_whole {P : Program} {w : World} {K : PySem.W.Frag} {mg : Str → Option Value} {base : Heap} {fa : Addr} {fd : FuncData} (B : FreeB mg)  (F : FunD K "is_whole" "is_whole" (defArgs st_is_whole) (defBody st_is_whole) (defScope st_is_whole) [] [] fa fd) : FnG P w K mg base 1 fa fd ["thing"] (spF mg fs_is_whole) :=
  fn_pure F sc_is_whole (fun ds Q ex h => by obtain ⟨_, _, rfl, _⟩ := h; rfl) (fun cdv A outer s H E hg hr => d_is_whole B  hg hr) p_is_whole
theorem b_is_whole {K : PySem.W.Frag} {fa : Addr} {fd : FuncData} (F : FunD K "is_whole" "is_whole" (defArgs st_is_whole) (defBody st_is_whole) (defScope st_is_whole) [] [] fa fd) : Binds K fd ["thing"] [] := F.bindsN fun _ _ _ _ _ _ us hl => match us, hl with | [_], _ => rfl
theorem c_is_whole {P : Program} {w : World} {K : PySem.W.Frag} {mg : Str → Option Value} {base : Heap} {fa : Addr} {fd : FuncData} (B : FreeB mg)  (F : FunD K "is_whole" "is_whole" (defArgs st_is_whole) (defBody st_is_whole) (defScope st_is_whole) [] [] fa fd) (m : mg "is_whole" = some (.ref fa)) : CalD P w K mg base 1 "is_whole" ["thing"] (spF mg fs_is_whole) := ⟨fa, fd, g_is_whole B  F, m, F.kp, b_is_whole F⟩
abbrev st_check_number : Stmt := top 11
theorem sc_check_number : FnScope ["number", "least", "most"] ["number", "least", "most"] (defScope st_check_number) := ⟨rfl, rfl, rfl, by decide +kernel, rfl, by decide +kernel, by decide +kernel⟩
theorem d_check_number {P : Program} {w : World} {K : PySem.W.Frag} {mg : Str → Option Value} {base : Heap} {f : Addr} {cdv : Value} {A : Around} {outer : List Env} {s : Shared} {H : Hp} {E : XK} (B : FreeB mg) (C_is_whole : CalD P w K mg base 1 "is_whole" ["thing"] (spF mg fs_is_whole)) (hg : (A.deeper (envOfC "check_number" (defScope st_check_number) s.heap.objs.size f cdv)).guards = some []) (hr : Room 1 (A.deeper (envOfC "check_number" (defScope st_check_number) s.heap.objs.size f cdv))) :
    PWSs (bX P w K mg base ["number", "least", "most"] "check_number" (defScope st_check_number) f cdv A outer s H E) E (defBody st_check_number) w_check_number :=
  pws_one (pws_if (pwt_of (pww_or (pwt_not (pwt_val (pw_cd C_is_whole hg hr pass_fn (pwa_cons (pw_var 0) (pwa_nil))))) (pww_or1 (pwt_not (pwt_chain o_le o_le (pw_var 1) (pw_var 0) (pw_var 2)))))) (pws_one (pws_never)) (pws_nil))
theorem g_check_number {P : Program} {w : World} {K : PySem.W.Frag} {mg : Str → Option Value} {base : Heap} {fa : Addr} {fd : FuncData} (B : FreeB mg) (C_is_whole : CalD P w K mg base 1 "is_whole" ["thing"] (spF mg fs_is_whole)) (F : FunD K "check_number" "check_number" (defArgs st_check_number) (defBody st_check_number) (defScope st_check_number) [] [] fa fd) : FnG P w K mg base 2 fa fd ["number", "least", "most"] (spF mg fs_check_number) :=
  fn_pure F sc_check_number (fun ds Q ex h => by obtain ⟨_, _, _, rfl, _⟩ := h; rfl) (fun cdv A outer s H E hg hr => d_check_number B C_is_whole hg hr) p_check_number
theorem b_check_number {K : PySem.W.Frag} {fa : Addr} {fd : FuncData} (F : FunD K "check_number" "check_number" (defArgs st_check_number) (defBody st_check_number) (defScope st_check_number) [] [] fa fd) : Binds K fd ["number", "least", "most"] [] := F.bindsN fun _ _ _ _ _ _ us hl => match us, hl with | [_, _, _], _ => rfl
theorem c_check_number {P : Program} {w : World} {K : PySem.W.Frag} {mg : Str → Option Value} {base : Heap} {fa : Addr} {fd : FuncData} (B : FreeB mg) (C_is_whole : CalD P w K mg base 1 "is_whole" ["thing"] (spF mg fs_is_whole)) (F : FunD K "check_number" "check_number" (defArgs st_check_number) (defBody st_check_number) (defScope st_check_number) [] [] fa fd) (m : mg "check_number" = some (.ref fa)) : CalD P w K mg base 2 "check_number" ["number", "least", "most"] (spF mg fs_check_number) := ⟨fa, fd, g_check_number B C_is_whole F, m, F.kp, b_check_number F⟩
abbrev st_check_points : Stmt := top 12
theorem sc_check_points : FnScope ["points"] ["points"] (defScope st_check_points) := ⟨rfl, rfl, rfl, by decide +kernel, rfl, by decide +kernel, by decide +kernel⟩
theorem d_check_points {P : Program} {w : World} {K : PySem.W.Frag} {mg : Str → Option Value} {base : Heap} {f : Addr} {cdv : Value} {A : Around} {outer : List Env} {s : Shared} {H : Hp} {E : XK} (B : FreeB mg) (g_MOST_POINTS : ∃ t, mg "MOST_POINTS" = some (.int 12 t)) (C_check_number : CalD P w K mg base 2 "check_number" ["number", "least", "most"] (spF mg fs_check_number)) (hg : (A.deeper (envOfC "check_points" (defScope st_check_points) s.heap.objs.size f cdv)).guards = some []) (hr : Room 2 (A.deeper (envOfC "check_points" (defScope st_check_points) s.heap.objs.size f cdv))) :
    PWSs (bX P w K mg base ["points"] "check_points" (defScope st_check_points) f cdv A outer s H E) E (defBody st_check_points) w_check_points :=
  pws_one (pws_expr (pw_cd C_check_number hg hr pass_fn (pwa_cons (pw_var 0) (pwa_cons (pw_int) (pwa_cons (pw_gint g_MOST_POINTS) (pwa_nil))))))
theorem g_check_points {P : Program} {w : World} {K : PySem.W.Frag} {mg : Str → Option Value} {base : Heap} {fa : Addr} {fd : FuncData} (B : FreeB mg) (g_MOST_POINTS : ∃ t, mg "MOST_POINTS" = some (.int 12 t)) (C_check_number : CalD P w K mg base 2 "check_number" ["number", "least", "most"] (spF mg fs_check_number)) (F : FunD K "check_points" "check_points" (defArgs st_check_points) (defBody st_check_points) (defScope st_check_points) [] [] fa fd) : FnG P w K mg base 3 fa fd ["points"] (spF mg fs_check_points) :=
  fn_pure F sc_check_points (fun ds Q ex h => by obtain ⟨_, rfl, _⟩ := h; rfl) (fun cdv A outer s H E hg hr => d_check_points B g_MOST_POINTS C_check_number hg hr) p_check_points
theorem b_check_points {K : PySem.W.Frag} {fa : Addr} {fd : FuncData} (F : FunD K "check_points" "check_points" (defArgs st_check_points) (defBody st_check_points) (defScope st_check_points) [] [] fa fd) : Binds K fd ["points"] [] := F.bindsN fun _ _ _ _ _ _ us hl => match us, hl with | [_], _ => rfl
theorem c_check_points {P : Program} {w : World} {K : PySem.W.Frag} {mg : Str → Option Value} {base : Heap} {fa : Addr} {fd : FuncData} (B : FreeB mg) (g_MOST_POINTS : ∃ t, mg "MOST_POINTS" = some (.int 12 t)) (C_check_number : CalD P w K mg base 2 "check_number" ["number", "least", "most"] (spF mg fs_check_number)) (F : FunD K "check_points" "check_points" (defArgs st_check_points) (defBody st_check_points) (defScope st_check_points) [] [] fa fd) (m : mg "check_points" = some (.ref fa)) : CalD P w K mg base 3 "check_points" ["points"] (spF mg fs_check_points) := ⟨fa, fd, g_check_points B g_MOST_POINTS C_check_number F, m, F.kp, b_check_points F⟩
abbrev st_is_pair : Stmt := top 13
theorem sc_is_pair : FnScope ["thing", "points", "point"] ["thing", "points"] (defScope st_is_pair) := ⟨rfl, rfl, rfl, by decide +kernel, rfl, by decide +kernel, by decide +kernel⟩
theorem d_is_pair {P : Program} {w : World} {K : PySem.W.Frag} {mg : Str → Option Value} {base : Heap} {f : Addr} {cdv : Value} {A : Around} {outer : List Env} {s : Shared} {H : Hp} {E : XK} (B : FreeB mg) (C_is_whole : CalD P w K mg base 1 "is_whole" ["thing"] (spF mg fs_is_whole)) (hg : (A.deeper (envOfC "is_pair" (defScope st_is_pair) s.heap.objs.size f cdv)).guards = some []) (hr : Room 1 (A.deeper (envOfC "is_pair" (defScope st_is_pair) s.heap.objs.size f cdv))) :
    PWSs (bX P w K mg base ["thing", "points", "point"] "is_pair" (defScope st_is_pair) f cdv A outer s H E) E (defBody st_is_pair) w_is_pair :=
  pws_cons (pws_if (pwt_of (pww_or (pwt_not (pwt_val (pw_isi kit_list B.isinstance B.list rfl rfl (pv_name 0)))) (pww_or1 (pwt_cmp (o_ne (u64 hr)) (pw_b1 o_len B.len rfl (pv_name 0)) (pw_int))))) (pws_one (pws_ret (pw_bl))) (pws_nil)) (pws_one (pws_ret (pw_and (pw_b1 (o_all rfl) B.all rfl (pv_of (pw_lc (own := [("point", 2)]) rfl sc_is_pair.nd (blkOk_by (by kernel_rfl)) (pi_lst (pv_name 0)) (fun _ _ _ _ _ => pg_nm 2 sc_is_pair.nd (by first | exact Or.inl rfl | exact Or.inr rfl)) (fun _ _ _ _ _ => pwts_nil) (fun _ _ _ _ _ => pw_and (pw_cd C_is_whole hg hr pass0 (pwa_cons (pw_var 2) (pwa_nil))) (pw_one (pw_chain o_le o_le (pw_int) (pw_var 2) (pw_var 1)))) (by decide)))) (pw_one (pw_cmp (o_ne (u64 hr)) (pw_ix (u1 hr) (pv_name 0) (pw_int)) (pw_ix (u1 hr) (pv_name 0) (pw_int)))))))
theorem g_is_pair {P : Program} {w : World} {K : PySem.W.Frag} {mg : Str → Option Value} {base : Heap} {fa : Addr} {fd : FuncData} (B : FreeB mg) (C_is_whole : CalD P w K mg base 1 "is_whole" ["thing"] (spF mg fs_is_whole)) (F : FunD K "is_pair" "is_pair" (defArgs st_is_pair) (defBody st_is_pair) (defScope st_is_pair) [] [] fa fd) : FnG P w K mg base 2 fa fd ["thing", "points"] (spF mg fs_is_pair) :=
  fn_pure F sc_is_pair (fun ds Q ex h => by obtain ⟨_, _, rfl, _⟩ := h; rfl) (fun cdv A outer s H E hg hr => d_is_pair B C_is_whole hg hr) p_is_pair
theorem b_is_pair {K : PySem.W.Frag} {fa : Addr} {fd : FuncData} (F : FunD K "is_pair" "is_pair" (defArgs st_is_pair) (defBody st_is_pair) (defScope st_is_pair) [] [] fa fd) : Binds K fd ["thing", "points"] [] := F.bindsN fun _ _ _ _ _ _ us hl => match us, hl with | [_, _], _ => rfl
theorem c_is_pair {P : Program} {w : World} {K : PySem.W.Frag} {mg : Str → Option Value} {base : Heap} {fa : Addr} {fd : FuncData} (B : FreeB mg) (C_is_whole : CalD P w K mg base 1 "is_whole" ["thing"] (spF mg fs_is_whole)) (F : FunD K "is_pair" "is_pair" (defArgs st_is_pair) (defBody st_is_pair) (defScope st_is_pair) [] [] fa fd) (m : mg "is_pair" = some (.ref fa)) : CalD P w K mg base 2 "is_pair" ["thing", "points"] (spF mg fs_is_pair) := ⟨fa, fd, g_is_pair B C_is_whole F, m, F.kp, b_is_pair F⟩
abbrev st_wrong_pair : Stmt := top 14
theorem sc_wrong_pair : FnScope ["pairs", "points", "seen", "index", "pair"] ["pairs", "points"] (defScope st_wrong_pair) := ⟨rfl, rfl, rfl, by decide +kernel, rfl, by decide +kernel, by decide +kernel⟩
theorem d_wrong_pair {P : Program} {w : World} {K : PySem.W.Frag} {mg : Str → Option Value} {base : Heap} {f : Addr} {cdv : Value} {A : Around} {outer : List Env} {s : Shared} {H : Hp} {E : XK} (B : FreeB mg) (C_is_pair : CalD P w K mg base 2 "is_pair" ["thing", "points"] (spF mg fs_is_pair)) (hg : (A.deeper (envOfC "wrong_pair" (defScope st_wrong_pair) s.heap.objs.size f cdv)).guards = some []) (hr : Room 2 (A.deeper (envOfC "wrong_pair" (defScope st_wrong_pair) s.heap.objs.size f cdv))) :
    PWSs (bX P w K mg base ["pairs", "points", "seen", "index", "pair"] "wrong_pair" (defScope st_wrong_pair) f cdv A outer s H E) E (defBody st_wrong_pair) w_wrong_pair :=
  pws_cons (pws_setO 2 (pn_dt) sc_wrong_pair.nd) (pws_cons (pws_for own_fn rfl (pi_en B.enumerate (pv_name 0)) (pg_tp (n := 2) rfl (pwg_cons (pg_nm 3 sc_wrong_pair.nd (by first | exact Or.inl rfl | exact Or.inr rfl)) (pwg_cons (pg_nm 4 sc_wrong_pair.nd (by first | exact Or.inl rfl | exact Or.inr rfl)) (pwg_nil))) (len_name (len_name (len_nil)))) (pws_cons (pws_if (pwt_of (pww_or (pwt_not (pwt_val (pw_cd C_is_pair hg hr pass_fn (pwa_cons (pw_var 4) (pwa_cons (pw_var 1) (pwa_nil)))))) (pww_or1 (pwt_in (u65 hr) (pw_tup (pwa_cons (pw_b1 (o_min rfl) B.min rfl (pv_name 4)) (pwa_cons (pw_b1 (o_max rfl) B.max rfl (pv_name 4)) (pwa_nil)))) (pv_name 2))))) (pws_one (pws_ret (pw_var 3))) (pws_nil)) (pws_one (pws_put 2 (u1 hr) (pw_bl) (pw_tup (pwa_cons (pw_b1 (o_min rfl) B.min rfl (pv_name 4)) (pwa_cons (pw_b1 (o_max rfl) B.max rfl (pv_name 4)) (pwa_nil)))))))) (pws_one (pws_ret (pw_non))))
theorem g_wrong_pair {P : Program} {w : World} {K : PySem.W.Frag} {mg : Str → Option Value} {base : Heap} {fa : Addr} {fd : FuncData} (B : FreeB mg) (C_is_pair : CalD P w K mg base 2 "is_pair" ["thing", "points"] (spF mg fs_is_pair)) (F : FunD K "wrong_pair" "wrong_pair" (defArgs st_wrong_pair) (defBody st_wrong_pair) (defScope st_wrong_pair) [] [] fa fd) : FnG P w K mg base 3 fa fd ["pairs", "points"] (spF mg fs_wrong_pair) :=
  fn_pure F sc_wrong_pair (fun ds Q ex h => by obtain ⟨_, _, rfl, _⟩ := h; rfl) (fun cdv A outer s H E hg hr => d_wrong_pair B C_is_pair hg hr) p_wrong_pair
theorem b_wrong_pair {K : PySem.W.Frag} {fa : Addr} {fd : FuncData} (F : FunD K "wrong_pair" "wrong_pair" (defArgs st_wrong_pair) (defBody st_wrong_pair) (defScope st_wrong_pair) [] [] fa fd) : Binds K fd ["pairs", "points"] [] := F.bindsN fun _ _ _ _ _ _ us hl => match us, hl with | [_, _], _ => rfl
theorem c_wrong_pair {P : Program} {w : World} {K : PySem.W.Frag} {mg : Str → Option Value} {base : Heap} {fa : Addr} {fd : FuncData} (B : FreeB mg) (C_is_pair : CalD P w K mg base 2 "is_pair" ["thing", "points"] (spF mg fs_is_pair)) (F : FunD K "wrong_pair" "wrong_pair" (defArgs st_wrong_pair) (defBody st_wrong_pair) (defScope st_wrong_pair) [] [] fa fd) (m : mg "wrong_pair" = some (.ref fa)) : CalD P w K mg base 3 "wrong_pair" ["pairs", "points"] (spF mg fs_wrong_pair) := ⟨fa, fd, g_wrong_pair B C_is_pair F, m, F.kp, b_wrong_pair F⟩
abbrev st_reached_in : Stmt := top 15
theorem sc_reached_in : FnScope ["points", "pairs", "seen", "waiting", "here", "one", "two", "other"] ["points", "pairs"] (defScope st_reached_in) := ⟨rfl, rfl, rfl, by decide +kernel, rfl, by decide +kernel, by decide +kernel⟩
theorem d_reached_in {P : Program} {w : World} {K : PySem.W.Frag} {mg : Str → Option Value} {base : Heap} {f : Addr} {cdv : Value} {A : Around} {outer : List Env} {s : Shared} {H : Hp} {E : XK} (B : FreeB mg) (hg : (A.deeper (envOfC "reached_in" (defScope st_reached_in) s.heap.objs.size f cdv)).guards = some []) (hr : Room 0 (A.deeper (envOfC "reached_in" (defScope st_reached_in) s.heap.objs.size f cdv))) :
    PWSs (bX P w K mg base ["points", "pairs", "seen", "waiting", "here", "one", "two", "other"] "reached_in" (defScope st_reached_in) f cdv A outer s H E) E (defBody st_reached_in) w_reached_in :=
  pws_cons (pws_par 2 3 (pm_own (pn_disp1 (pw_int) (pw_bl))) (pm_own (pn_lst (pwa_cons (pw_int) (pwa_nil)))) (by decide) rfl sc_reached_in.nd rfl) (pws_cons (pws_while own_fn (pwt_neV (u64 hr) (pv_name 3) (pw_lst (pwa_nil))) (pws_cons (pws_set 4 (pw_pop 3) sc_reached_in.nd) (pws_one (pws_for own_fn rfl (pi_lst (pv_name 1)) (pg_tp (n := 2) rfl (pwg_cons (pg_nm 5 sc_reached_in.nd (by first | exact Or.inl rfl | exact Or.inr rfl)) (pwg_cons (pg_nm 6 sc_reached_in.nd (by first | exact Or.inl rfl | exact Or.inr rfl)) (pwg_nil))) (len_name (len_name (len_nil)))) (pws_one (pws_for own_fn rfl (pi_lst (pv_of (pw_ifExp (pwt_cmp (o_eq (u64 hr)) (pw_var 5) (pw_var 4)) (pw_lst (pwa_cons (pw_var 6) (pwa_nil))) (pw_ifExp (pwt_cmp (o_eq (u64 hr)) (pw_var 6) (pw_var 4)) (pw_lst (pwa_cons (pw_var 5) (pwa_nil))) (pw_lst (pwa_nil)))))) (pg_nm 7 sc_reached_in.nd (by first | exact Or.inl rfl | exact Or.inr rfl)) (pws_one (pws_if (pwt_notin (u65 hr) (pw_var 7) (pv_name 2)) (pws_cons (pws_put 2 (u1 hr) (pw_bl) (pw_var 7)) (pws_one (pws_expr (pw_app 3 (pw_var 7))))) (pws_nil))))))))) (pws_one (pws_ret (pw_var 2))))
theorem g_reached_in {P : Program} {w : World} {K : PySem.W.Frag} {mg : Str → Option Value} {base : Heap} {fa : Addr} {fd : FuncData} (B : FreeB mg)  (F : FunD K "reached_in" "reached_in" (defArgs st_reached_in) (defBody st_reached_in) (defScope st_reached_in) [] [] fa fd) : FnG P w K mg base 1 fa fd ["points", "pairs"] (spF mg fs_reached_in) :=
  fn_pure F sc_reached_in (fun ds Q ex h => by obtain ⟨_, _, rfl, _⟩ := h; rfl) (fun cdv A outer s H E hg hr => d_reached_in B  hg hr) p_reached_in
theorem b_reached_in {K : PySem.W.Frag} {fa : Addr} {fd : FuncData} (F : FunD K "reached_in" "reached_in" (defArgs st_reached_in) (defBody st_reached_in) (defScope st_reached_in) [] [] fa fd) : Binds K fd ["points", "pairs"] [] := F.bindsN fun _ _ _ _ _ _ us hl => match us, hl with | [_, _], _ => rfl
theorem c_reached_in {P : Program} {w : World} {K : PySem.W.Frag} {mg : Str → Option Value} {base : Heap} {fa : Addr} {fd : FuncData} (B : FreeB mg)  (F : FunD K "reached_in" "reached_in" (defArgs st_reached_in) (defBody st_reached_in) (defScope st_reached_in) [] [] fa fd) (m : mg "reached_in" = some (.ref fa)) : CalD P w K mg base 1 "reached_in" ["points", "pairs"] (spF mg fs_reached_in) := ⟨fa, fd, g_reached_in B  F, m, F.kp, b_reached_in F⟩
abbrev st_check_hanging : Stmt := top 16
theorem sc_check_hanging : FnScope ["points", "pairs", "seen", "away", "point"] ["points", "pairs"] (defScope st_check_hanging) := ⟨rfl, rfl, rfl, by decide +kernel, rfl, by decide +kernel, by decide +kernel⟩
theorem d_check_hanging {P : Program} {w : World} {K : PySem.W.Frag} {mg : Str → Option Value} {base : Heap} {f : Addr} {cdv : Value} {A : Around} {outer : List Env} {s : Shared} {H : Hp} {E : XK} (B : FreeB mg) (C_reached_in : CalD P w K mg base 1 "reached_in" ["points", "pairs"] (spF mg fs_reached_in)) (hg : (A.deeper (envOfC "check_hanging" (defScope st_check_hanging) s.heap.objs.size f cdv)).guards = some []) (hr : Room 1 (A.deeper (envOfC "check_hanging" (defScope st_check_hanging) s.heap.objs.size f cdv))) :
    PWSs (bX P w K mg base ["points", "pairs", "seen", "away", "point"] "check_hanging" (defScope st_check_hanging) f cdv A outer s H E) E (defBody st_check_hanging) w_check_hanging :=
  pws_cons (pws_set 2 (pw_cd C_reached_in hg hr pass_fn (pwa_cons (pw_var 0) (pwa_cons (pw_var 1) (pwa_nil)))) sc_check_hanging.nd) (pws_cons (pws_setLc 3 (own := [("point", 4)]) rfl sc_check_hanging.nd (blkOk_by (by kernel_rfl)) (pi_rng2 B.range (pw_int) (pw_bin o_add (pw_var 0) (pw_int))) (fun _ _ _ _ _ => pg_nm 4 sc_check_hanging.nd (by first | exact Or.inl rfl | exact Or.inr rfl)) (fun _ _ _ _ _ => pwts_one (pwt_notin (u65 hr) (pw_var 4) (pv_name 2))) (fun _ _ _ _ _ => pw_var 4) (by decide) rfl) (pws_one (pws_if (pwt_cmp (o_ne (u64 hr)) (pw_var 3) (pw_lst (pwa_nil))) (pws_one (pws_never)) (pws_nil))))
theorem g_check_hanging {P : Program} {w : World} {K : PySem.W.Frag} {mg : Str → Option Value} {base : Heap} {fa : Addr} {fd : FuncData} (B : FreeB mg) (C_reached_in : CalD P w K mg base 1 "reached_in" ["points", "pairs"] (spF mg fs_reached_in)) (F : FunD K "check_hanging" "check_hanging" (defArgs st_check_hanging) (defBody st_check_hanging) (defScope st_check_hanging) [] [] fa fd) : FnG P w K mg base 2 fa fd ["points", "pairs"] (spF mg fs_check_hanging) :=
  fn_pure F sc_check_hanging (fun ds Q ex h => by obtain ⟨_, _, rfl, _⟩ := h; rfl) (fun cdv A outer s H E hg hr => d_check_hanging B C_reached_in hg hr) p_check_hanging
theorem b_check_hanging {K : PySem.W.Frag} {fa : Addr} {fd : FuncData} (F : FunD K "check_hanging" "check_hanging" (defArgs st_check_hanging) (defBody st_check_hanging) (defScope st_check_hanging) [] [] fa fd) : Binds K fd ["points", "pairs"] [] := F.bindsN fun _ _ _ _ _ _ us hl => match us, hl with | [_, _], _ => rfl
theorem c_check_hanging {P : Program} {w : World} {K : PySem.W.Frag} {mg : Str → Option Value} {base : Heap} {fa : Addr} {fd : FuncData} (B : FreeB mg) (C_reached_in : CalD P w K mg base 1 "reached_in" ["points", "pairs"] (spF mg fs_reached_in)) (F : FunD K "check_hanging" "check_hanging" (defArgs st_check_hanging) (defBody st_check_hanging) (defScope st_check_hanging) [] [] fa fd) (m : mg "check_hanging" = some (.ref fa)) : CalD P w K mg base 2 "check_hanging" ["points", "pairs"] (spF mg fs_check_hanging) := ⟨fa, fd, g_check_hanging B C_reached_in F, m, F.kp, b_check_hanging F⟩
abbrev st_check_arrows : Stmt := top 17
theorem sc_check_arrows : FnScope ["arrows", "points", "wrong"] ["arrows", "points"] (defScope st_check_arrows) := ⟨rfl, rfl, rfl, by decide +kernel, rfl, by decide +kernel, by decide +kernel⟩
theorem d_check_arrows {P : Program} {w : World} {K : PySem.W.Frag} {mg : Str → Option Value} {base : Heap} {f : Addr} {cdv : Value} {A : Around} {outer : List Env} {s : Shared} {H : Hp} {E : XK} (B : FreeB mg) (g_MOST_LINES : ∃ t, mg "MOST_LINES" = some (.int 30 t)) (C_wrong_pair : CalD P w K mg base 3 "wrong_pair" ["pairs", "points"] (spF mg fs_wrong_pair)) (C_check_hanging : CalD P w K mg base 2 "check_hanging" ["points", "pairs"] (spF mg fs_check_hanging)) (hg : (A.deeper (envOfC "check_arrows" (defScope st_check_arrows) s.heap.objs.size f cdv)).guards = some []) (hr : Room 3 (A.deeper (envOfC "check_arrows" (defScope st_check_arrows) s.heap.objs.size f cdv))) :
    PWSs (bX P w K mg base ["arrows", "points", "wrong"] "check_arrows" (defScope st_check_arrows) f cdv A outer s H E) E (defBody st_check_arrows) w_check_arrows :=
  pws_cons (pws_if (pwt_of (pww_or (pwt_not (pwt_val (pw_isi kit_list B.isinstance B.list rfl rfl (pv_name 0)))) (pww_or1 (pwt_cmp o_gt (pw_b1 o_len B.len rfl (pv_name 0)) (pw_gint g_MOST_LINES))))) (pws_one (pws_never)) (pws_nil)) (pws_cons (pws_set 2 (pw_cd C_wrong_pair hg hr pass_fn (pwa_cons (pw_var 0) (pwa_cons (pw_var 1) (pwa_nil)))) sc_check_arrows.nd) (pws_cons (pws_if (pwt_cmp o_notN (pw_var 2) (pw_non)) (pws_one (pws_never)) (pws_nil)) (pws_one (pws_expr (pw_cd C_check_hanging hg hr pass_fn (pwa_cons (pw_var 1) (pwa_cons (pw_var 0) (pwa_nil))))))))
theorem g_check_arrows {P : Program} {w : World} {K : PySem.W.Frag} {mg : Str → Option Value} {base : Heap} {fa : Addr} {fd : FuncData} (B : FreeB mg) (g_MOST_LINES : ∃ t, mg "MOST_LINES" = some (.int 30 t)) (C_wrong_pair : CalD P w K mg base 3 "wrong_pair" ["pairs", "points"] (spF mg fs_wrong_pair)) (C_check_hanging : CalD P w K mg base 2 "check_hanging" ["points", "pairs"] (spF mg fs_check_hanging)) (F : FunD K "check_arrows" "check_arrows" (defArgs st_check_arrows) (defBody st_check_arrows) (defScope st_check_arrows) [] [] fa fd) : FnG P w K mg base 4 fa fd ["arrows", "points"] (spF mg fs_check_arrows) :=
  fn_pure F sc_check_arrows (fun ds Q ex h => by obtain ⟨_, _, rfl, _⟩ := h; rfl) (fun cdv A outer s H E hg hr => d_check_arrows B g_MOST_LINES C_wrong_pair C_check_hanging hg hr) p_check_arrows
theorem b_check_arrows {K : PySem.W.Frag} {fa : Addr} {fd : FuncData} (F : FunD K "check_arrows" "check_arrows" (defArgs st_check_arrows) (defBody st_check_arrows) (defScope st_check_arrows) [] [] fa fd) : Binds K fd ["arrows", "points"] [] := F.bindsN fun _ _ _ _ _ _ us hl => match us, hl with | [_, _], _ => rfl
theorem c_check_arrows {P : Program} {w : World} {K : PySem.W.Frag} {mg : Str → Option Value} {base : Heap} {fa : Addr} {fd : FuncData} (B : FreeB mg) (g_MOST_LINES : ∃ t, mg "MOST_LINES" = some (.int 30 t)) (C_wrong_pair : CalD P w K mg base 3 "wrong_pair" ["pairs", "points"] (spF mg fs_wrong_pair)) (C_check_hanging : CalD P w K mg base 2 "check_hanging" ["points", "pairs"] (spF mg fs_check_hanging)) (F : FunD K "check_arrows" "check_arrows" (defArgs st_check_arrows) (defBody st_check_arrows) (defScope st_check_arrows) [] [] fa fd) (m : mg "check_arrows" = some (.ref fa)) : CalD P w K mg base 4 "check_arrows" ["arrows", "points"] (spF mg fs_check_arrows) := ⟨fa, fd, g_check_arrows B g_MOST_LINES C_wrong_pair C_check_hanging F, m, F.kp, b_check_arrows F⟩
abbrev st_check_both : Stmt := top 18
theorem sc_check_both : FnScope ["points", "arrows"] ["points", "arrows"] (defScope st_check_both) := ⟨rfl, rfl, rfl, by decide +kernel, rfl, by decide +kernel, by decide +kernel⟩
theorem d_check_both {P : Program} {w : World} {K : PySem.W.Frag} {mg : Str → Option Value} {base : Heap} {f : Addr} {cdv : Value} {A : Around} {outer : List Env} {s : Shared} {H : Hp} {E : XK} (B : FreeB mg) (C_check_points : CalD P w K mg base 3 "check_points" ["points"] (spF mg fs_check_points)) (C_check_arrows : CalD P w K mg base 4 "check_arrows" ["arrows", "points"] (spF mg fs_check_arrows)) (hg : (A.deeper (envOfC "check_both" (defScope st_check_both) s.heap.objs.size f cdv)).guards = some []) (hr : Room 4 (A.deeper (envOfC "check_both" (defScope st_check_both) s.heap.objs.size f cdv))) :
    PWSs (bX P w K mg base ["points", "arrows"] "check_both" (defScope st_check_both) f cdv A outer s H E) E (defBody st_check_both) w_check_both :=
  pws_cons (pws_expr (pw_cd C_check_points hg hr pass_fn (pwa_cons (pw_var 0) (pwa_nil)))) (pws_one (pws_expr (pw_cd C_check_arrows hg hr pass_fn (pwa_cons (pw_var 1) (pwa_cons (pw_var 0) (pwa_nil))))))
theorem g_check_both {P : Program} {w : World} {K : PySem.W.Frag} {mg : Str → Option Value} {base : Heap} {fa : Addr} {fd : FuncData} (B : FreeB mg) (C_check_points : CalD P w K mg base 3 "check_points" ["points"] (spF mg fs_check_points)) (C_check_arrows : CalD P w K mg base 4 "check_arrows" ["arrows", "points"] (spF mg fs_check_arrows)) (F : FunD K "check_both" "check_both" (defArgs st_check_both) (defBody st_check_both) (defScope st_check_both) [] [] fa fd) : FnG P w K mg base 5 fa fd ["points", "arrows"] (spF mg fs_check_both) :=
  fn_pure F sc_check_both (fun ds Q ex h => by obtain ⟨_, _, rfl, _⟩ := h; rfl) (fun cdv A outer s H E hg hr => d_check_both B C_check_points C_check_arrows hg hr) p_check_both
theorem b_check_both {K : PySem.W.Frag} {fa : Addr} {fd : FuncData} (F : FunD K "check_both" "check_both" (defArgs st_check_both) (defBody st_check_both) (defScope st_check_both) [] [] fa fd) : Binds K fd ["points", "arrows"] [] := F.bindsN fun _ _ _ _ _ _ us hl => match us, hl with | [_, _], _ => rfl
theorem c_check_both {P : Program} {w : World} {K : PySem.W.Frag} {mg : Str → Option Value} {base : Heap} {fa : Addr} {fd : FuncData} (B : FreeB mg) (C_check_points : CalD P w K mg base 3 "check_points" ["points"] (spF mg fs_check_points)) (C_check_arrows : CalD P w K mg base 4 "check_arrows" ["arrows", "points"] (spF mg fs_check_arrows)) (F : FunD K "check_both" "check_both" (defArgs st_check_both) (defBody st_check_both) (defScope st_check_both) [] [] fa fd) (m : mg "check_both" = some (.ref fa)) : CalD P w K mg base 5 "check_both" ["points", "arrows"] (spF mg fs_check_both) := ⟨fa, fd, g_check_both B C_check_points C_check_arrows F, m, F.kp, b_check_both F⟩
abbrev st_barred_in : Stmt := top 24
theorem sc_barred_in : FnScope ["points", "arrows", "left", "ends", "point", "tail", "head"] ["points", "arrows"] (defScope st_barred_in) := ⟨rfl, rfl, rfl, by decide +kernel, rfl, by decide +kernel, by decide +kernel⟩
theorem d_barred_in {P : Program} {w : World} {K : PySem.W.Frag} {mg : Str → Option Value} {base : Heap} {f : Addr} {cdv : Value} {A : Around} {outer : List Env} {s : Shared} {H : Hp} {E : XK} (B : FreeB mg) (hg : (A.deeper (envOfC "barred_in" (defScope st_barred_in) s.heap.objs.size f cdv)).guards = some []) (hr : Room 0 (A.deeper (envOfC "barred_in" (defScope st_barred_in) s.heap.objs.size f cdv))) :
    PWSs (bX P w K mg base ["points", "arrows", "left", "ends", "point", "tail", "head"] "barred_in" (defScope st_barred_in) f cdv A outer s H E) E (defBody st_barred_in) w_barred_in :=
  pws_cons (pws_set 2 (pw_listRg2 rfl B.list B.range (pw_int) (pw_bin o_add (pw_var 0) (pw_int))) sc_barred_in.nd) (pws_cons (pws_set 3 (pw_lc (own := [("point", 4)]) rfl sc_barred_in.nd (blkOk_by (by kernel_rfl)) (pi_lst (pv_name 2)) (fun _ _ _ _ _ => pg_nm 4 sc_barred_in.nd (by first | exact Or.inl rfl | exact Or.inr rfl)) (fun _ _ _ _ _ => pwts_one (pwt_cmp (o_eq (u64 hr)) (pw_lc (own := [("tail", 5), ("head", 6)]) rfl sc_barred_in.nd (blkOk_by (by kernel_rfl)) (pi_lst (pv_name 1)) (fun _ _ _ _ _ => pg_tp (n := 2) rfl (pwg_cons (pg_nm 5 sc_barred_in.nd (by first | exact Or.inl rfl | exact Or.inr rfl)) (pwg_cons (pg_nm 6 sc_barred_in.nd (by first | exact Or.inl rfl | exact Or.inr rfl)) (pwg_nil))) (len_name (len_name (len_nil)))) (fun _ _ _ _ _ => pwts_one (pwt_of (pww_and (pwt_cmp (o_eq (u64 hr)) (pw_var 5) (pw_var 4)) (pww_and1 (pwt_in (u65 hr) (pw_var 6) (pv_name 2)))))) (fun _ _ _ _ _ => pw_var 6) (by decide)) (pw_lst (pwa_nil)))) (fun _ _ _ _ _ => pw_var 4) (by decide)) sc_barred_in.nd) (pws_cons (pws_while own_fn (pwt_cmp (o_ne (u64 hr)) (pw_var 3) (pw_lst (pwa_nil))) (pws_cons (pws_set 2 (pw_lc (own := [("point", 4)]) rfl sc_barred_in.nd (blkOk_by (by kernel_rfl)) (pi_lst (pv_name 2)) (fun _ _ _ _ _ => pg_nm 4 sc_barred_in.nd (by first | exact Or.inl rfl | exact Or.inr rfl)) (fun _ _ _ _ _ => pwts_one (pwt_notin (u65 hr) (pw_var 4) (pv_name 3))) (fun _ _ _ _ _ => pw_var 4) (by decide)) sc_barred_in.nd) (pws_one (pws_set 3 (pw_lc (own := [("point", 4)]) rfl sc_barred_in.nd (blkOk_by (by kernel_rfl)) (pi_lst (pv_name 2)) (fun _ _ _ _ _ => pg_nm 4 sc_barred_in.nd (by first | exact Or.inl rfl | exact Or.inr rfl)) (fun _ _ _ _ _ => pwts_one (pwt_cmp (o_eq (u64 hr)) (pw_lc (own := [("tail", 5), ("head", 6)]) rfl sc_barred_in.nd (blkOk_by (by kernel_rfl)) (pi_lst (pv_name 1)) (fun _ _ _ _ _ => pg_tp (n := 2) rfl (pwg_cons (pg_nm 5 sc_barred_in.nd (by first | exact Or.inl rfl | exact Or.inr rfl)) (pwg_cons (pg_nm 6 sc_barred_in.nd (by first | exact Or.inl rfl | exact Or.inr rfl)) (pwg_nil))) (len_name (len_name (len_nil)))) (fun _ _ _ _ _ => pwts_one (pwt_of (pww_and (pwt_cmp (o_eq (u64 hr)) (pw_var 5) (pw_var 4)) (pww_and1 (pwt_in (u65 hr) (pw_var 6) (pv_name 2)))))) (fun _ _ _ _ _ => pw_var 6) (by decide)) (pw_lst (pwa_nil)))) (fun _ _ _ _ _ => pw_var 4) (by decide)) sc_barred_in.nd)))) (pws_one (pws_ret (pw_var 2)))))
theorem g_barred_in {P : Program} {w : World} {K : PySem.W.Frag} {mg : Str → Option Value} {base : Heap} {fa : Addr} {fd : FuncData} (B : FreeB mg)  (F : FunD K "barred_in" "barred_in" (defArgs st_barred_in) (defBody st_barred_in) (defScope st_barred_in) [] [] fa fd) : FnG P w K mg base 1 fa fd ["points", "arrows"] (spF mg fs_barred_in) :=
  fn_pure F sc_barred_in (fun ds Q ex h => by obtain ⟨_, _, rfl, _⟩ := h; rfl) (fun cdv A outer s H E hg hr => d_barred_in B  hg hr) p_barred_in
theorem b_barred_in {K : PySem.W.Frag} {fa : Addr} {fd : FuncData} (F : FunD K "barred_in" "barred_in" (defArgs st_barred_in) (defBody st_barred_in) (defScope st_barred_in) [] [] fa fd) : Binds K fd ["points", "arrows"] [] := F.bindsN fun _ _ _ _ _ _ us hl => match us, hl with | [_, _], _ => rfl
theorem c_barred_in {P : Program} {w : World} {K : PySem.W.Frag} {mg : Str → Option Value} {base : Heap} {fa : Addr} {fd : FuncData} (B : FreeB mg)  (F : FunD K "barred_in" "barred_in" (defArgs st_barred_in) (defBody st_barred_in) (defScope st_barred_in) [] [] fa fd) (m : mg "barred_in" = some (.ref fa)) : CalD P w K mg base 1 "barred_in" ["points", "arrows"] (spF mg fs_barred_in) := ⟨fa, fd, g_barred_in B  F, m, F.kp, b_barred_in F⟩
abbrev st_barred : Stmt := top 29
theorem sc_barred : FnScope ["points", "arrows"] ["points", "arrows"] (defScope st_barred) := ⟨rfl, rfl, rfl, by decide +kernel, rfl, by decide +kernel, by decide +kernel⟩
theorem d_barred {P : Program} {w : World} {K : PySem.W.Frag} {mg : Str → Option Value} {base : Heap} {f : Addr} {cdv : Value} {A : Around} {outer : List Env} {s : Shared} {H : Hp} {E : XK} (B : FreeB mg) (C_check_both : CalD P w K mg base 5 "check_both" ["points", "arrows"] (spF mg fs_check_both)) (C_barred_in : CalD P w K mg base 1 "barred_in" ["points", "arrows"] (spF mg fs_barred_in)) (hg : (A.deeper (envOfC "barred" (defScope st_barred) s.heap.objs.size f cdv)).guards = some []) (hr : Room 5 (A.deeper (envOfC "barred" (defScope st_barred) s.heap.objs.size f cdv))) :
    PWSs (bX P w K mg base ["points", "arrows"] "barred" (defScope st_barred) f cdv A outer s H E) E (defBody st_barred) w_barred :=
  pws_cons (pws_expr (pw_cd C_check_both hg hr pass_fn (pwa_cons (pw_var 0) (pwa_cons (pw_var 1) (pwa_nil))))) (pws_one (pws_ret (pw_cd C_barred_in hg hr pass_fn (pwa_cons (pw_var 0) (pwa_cons (pw_var 1) (pwa_nil))))))
theorem g_barred {P : Program} {w : World} {K : PySem.W.Frag} {mg : Str → Option Value} {base : Heap} {fa : Addr} {fd : FuncData} (B : FreeB mg) (C_check_both : CalD P w K mg base 5 "check_both" ["points", "arrows"] (spF mg fs_check_both)) (C_barred_in : CalD P w K mg base 1 "barred_in" ["points", "arrows"] (spF mg fs_barred_in)) (F : FunD K "barred" "barred" (defArgs st_barred) (defBody st_barred) (defScope st_barred) [] [] fa fd) : FnG P w K mg base 6 fa fd ["points", "arrows"] (spF mg fs_barred) :=
  fn_pure F sc_barred (fun ds Q ex h => by obtain ⟨_, _, rfl, _⟩ := h; rfl) (fun cdv A outer s H E hg hr => d_barred B C_check_both C_barred_in hg hr) p_barred
theorem b_barred {K : PySem.W.Frag} {fa : Addr} {fd : FuncData} (F : FunD K "barred" "barred" (defArgs st_barred) (defBody st_barred) (defScope st_barred) [] [] fa fd) : Binds K fd ["points", "arrows"] [] := F.bindsN fun _ _ _ _ _ _ us hl => match us, hl with | [_, _], _ => rfl
theorem c_barred {P : Program} {w : World} {K : PySem.W.Frag} {mg : Str → Option Value} {base : Heap} {fa : Addr} {fd : FuncData} (B : FreeB mg) (C_check_both : CalD P w K mg base 5 "check_both" ["points", "arrows"] (spF mg fs_check_both)) (C_barred_in : CalD P w K mg base 1 "barred_in" ["points", "arrows"] (spF mg fs_barred_in)) (F : FunD K "barred" "barred" (defArgs st_barred) (defBody st_barred) (defScope st_barred) [] [] fa fd) (m : mg "barred" = some (.ref fa)) : CalD P w K mg base 6 "barred" ["points", "arrows"] (spF mg fs_barred) := ⟨fa, fd, g_barred B C_check_both C_barred_in F, m, F.kp, b_barred F⟩
abbrev st_may_in : Stmt := top 22
theorem sc_may_in : FnScope ["points", "arrows", "tails", "tail", "head", "point"] ["points", "arrows"] (defScope st_may_in) := ⟨rfl, rfl, rfl, by decide +kernel, rfl, by decide +kernel, by decide +kernel⟩
theorem d_may_in {P : Program} {w : World} {K : PySem.W.Frag} {mg : Str → Option Value} {base : Heap} {f : Addr} {cdv : Value} {A : Around} {outer : List Env} {s : Shared} {H : Hp} {E : XK} (B : FreeB mg) (hg : (A.deeper (envOfC "may_in" (defScope st_may_in) s.heap.objs.size f cdv)).guards = some []) (hr : Room 0 (A.deeper (envOfC "may_in" (defScope st_may_in) s.heap.objs.size f cdv))) :
    PWSs (bX P w K mg base ["points", "arrows", "tails", "tail", "head", "point"] "may_in" (defScope st_may_in) f cdv A outer s H E) E (defBody st_may_in) w_may_in :=
  pws_cons (pws_set 2 (pw_dc (own := [("tail", 3), ("head", 4)]) rfl sc_may_in.nd (blkOk_by (by kernel_rfl)) (pi_lst (pv_name 1)) (fun _ _ _ _ _ => pg_tp (n := 2) rfl (pwg_cons (pg_nm 3 sc_may_in.nd (by first | exact Or.inl rfl | exact Or.inr rfl)) (pwg_cons (pg_nm 4 sc_may_in.nd (by first | exact Or.inl rfl | exact Or.inr rfl)) (pwg_nil))) (len_name (len_name (len_nil)))) (fun _ _ _ _ _ => pwts_nil) (fun _ _ _ _ _ => pw_var 3) (fun _ _ _ _ _ => pw_bl) (by decide)) sc_may_in.nd) (pws_one (pws_ret (pw_lc (own := [("point", 5)]) rfl sc_may_in.nd (blkOk_by (by kernel_rfl)) (pi_rng2 B.range (pw_int) (pw_bin o_add (pw_var 0) (pw_int))) (fun _ _ _ _ _ => pg_nm 5 sc_may_in.nd (by first | exact Or.inl rfl | exact Or.inr rfl)) (fun _ _ _ _ _ => pwts_one (pwt_notin (u65 hr) (pw_var 5) (pv_name 2))) (fun _ _ _ _ _ => pw_var 5) (by decide))))
theorem g_may_in {P : Program} {w : World} {K : PySem.W.Frag} {mg : Str → Option Value} {base : Heap} {fa : Addr} {fd : FuncData} (B : FreeB mg)  (F : FunD K "may_in" "may_in" (defArgs st_may_in) (defBody st_may_in) (defScope st_may_in) [] [] fa fd) : FnG P w K mg base 1 fa fd ["points", "arrows"] (spF mg fs_may_in) :=
  fn_pure F sc_may_in (fun ds Q ex h => by obtain ⟨_, _, rfl, _⟩ := h; rfl) (fun cdv A outer s H E hg hr => d_may_in B  hg hr) p_may_in
theorem b_may_in {K : PySem.W.Frag} {fa : Addr} {fd : FuncData} (F : FunD K "may_in" "may_in" (defArgs st_may_in) (defBody st_may_in) (defScope st_may_in) [] [] fa fd) : Binds K fd ["points", "arrows"] [] := F.bindsN fun _ _ _ _ _ _ us hl => match us, hl with | [_, _], _ => rfl
theorem c_may_in {P : Program} {w : World} {K : PySem.W.Frag} {mg : Str → Option Value} {base : Heap} {fa : Addr} {fd : FuncData} (B : FreeB mg)  (F : FunD K "may_in" "may_in" (defArgs st_may_in) (defBody st_may_in) (defScope st_may_in) [] [] fa fd) (m : mg "may_in" = some (.ref fa)) : CalD P w K mg base 1 "may_in" ["points", "arrows"] (spF mg fs_may_in) := ⟨fa, fd, g_may_in B  F, m, F.kp, b_may_in F⟩
abbrev st_may_turn : Stmt := top 25
theorem sc_may_turn : FnScope ["points", "arrows"] ["points", "arrows"] (defScope st_may_turn) := ⟨rfl, rfl, rfl, by decide +kernel, rfl, by decide +kernel, by decide +kernel⟩
theorem d_may_turn {P : Program} {w : World} {K : PySem.W.Frag} {mg : Str → Option Value} {base : Heap} {f : Addr} {cdv : Value} {A : Around} {outer : List Env} {s : Shared} {H : Hp} {E : XK} (B : FreeB mg) (C_check_both : CalD P w K mg base 5 "check_both" ["points", "arrows"] (spF mg fs_check_both)) (C_may_in : CalD P w K mg base 1 "may_in" ["points", "arrows"] (spF mg fs_may_in)) (hg : (A.deeper (envOfC "may_turn" (defScope st_may_turn) s.heap.objs.size f cdv)).guards = some []) (hr : Room 5 (A.deeper (envOfC "may_turn" (defScope st_may_turn) s.heap.objs.size f cdv))) :
    PWSs (bX P w K mg base ["points", "arrows"] "may_turn" (defScope st_may_turn) f cdv A outer s H E) E (defBody st_may_turn) w_may_turn :=
  pws_cons (pws_expr (pw_cd C_check_both hg hr pass_fn (pwa_cons (pw_var 0) (pwa_cons (pw_var 1) (pwa_nil))))) (pws_one (pws_ret (pw_cd C_may_in hg hr pass_fn (pwa_cons (pw_var 0) (pwa_cons (pw_var 1) (pwa_nil))))))
theorem g_may_turn {P : Program} {w : World} {K : PySem.W.Frag} {mg : Str → Option Value} {base : Heap} {fa : Addr} {fd : FuncData} (B : FreeB mg) (C_check_both : CalD P w K mg base 5 "check_both" ["points", "arrows"] (spF mg fs_check_both)) (C_may_in : CalD P w K mg base 1 "may_in" ["points", "arrows"] (spF mg fs_may_in)) (F : FunD K "may_turn" "may_turn" (defArgs st_may_turn) (defBody st_may_turn) (defScope st_may_turn) [] [] fa fd) : FnG P w K mg base 6 fa fd ["points", "arrows"] (spF mg fs_may_turn) :=
  fn_pure F sc_may_turn (fun ds Q ex h => by obtain ⟨_, _, rfl, _⟩ := h; rfl) (fun cdv A outer s H E hg hr => d_may_turn B C_check_both C_may_in hg hr) p_may_turn
theorem b_may_turn {K : PySem.W.Frag} {fa : Addr} {fd : FuncData} (F : FunD K "may_turn" "may_turn" (defArgs st_may_turn) (defBody st_may_turn) (defScope st_may_turn) [] [] fa fd) : Binds K fd ["points", "arrows"] [] := F.bindsN fun _ _ _ _ _ _ us hl => match us, hl with | [_, _], _ => rfl
theorem c_may_turn {P : Program} {w : World} {K : PySem.W.Frag} {mg : Str → Option Value} {base : Heap} {fa : Addr} {fd : FuncData} (B : FreeB mg) (C_check_both : CalD P w K mg base 5 "check_both" ["points", "arrows"] (spF mg fs_check_both)) (C_may_in : CalD P w K mg base 1 "may_in" ["points", "arrows"] (spF mg fs_may_in)) (F : FunD K "may_turn" "may_turn" (defArgs st_may_turn) (defBody st_may_turn) (defScope st_may_turn) [] [] fa fd) (m : mg "may_turn" = some (.ref fa)) : CalD P w K mg base 6 "may_turn" ["points", "arrows"] (spF mg fs_may_turn) := ⟨fa, fd, g_may_turn B C_check_both C_may_in F, m, F.kp, b_may_turn F⟩
abbrev st_check_point : Stmt := top 19
theorem sc_check_point : FnScope ["point", "points"] ["point", "points"] (defScope st_check_point) := ⟨rfl, rfl, rfl, by decide +kernel, rfl, by decide +kernel, by decide +kernel⟩
theorem d_check_point {P : Program} {w : World} {K : PySem.W.Frag} {mg : Str → Option Value} {base : Heap} {f : Addr} {cdv : Value} {A : Around} {outer : List Env} {s : Shared} {H : Hp} {E : XK} (B : FreeB mg) (C_is_whole : CalD P w K mg base 1 "is_whole" ["thing"] (spF mg fs_is_whole)) (hg : (A.deeper (envOfC "check_point" (defScope st_check_point) s.heap.objs.size f cdv)).guards = some []) (hr : Room 1 (A.deeper (envOfC "check_point" (defScope st_check_point) s.heap.objs.size f cdv))) :
    PWSs (bX P w K mg base ["point", "points"] "check_point" (defScope st_check_point) f cdv A outer s H E) E (defBody st_check_point) w_check_point :=
  pws_one (pws_if (pwt_of (pww_or (pwt_not (pwt_val (pw_cd C_is_whole hg hr pass_fn (pwa_cons (pw_var 0) (pwa_nil))))) (pww_or1 (pwt_not (pwt_chain o_le o_le (pw_int) (pw_var 0) (pw_var 1)))))) (pws_one (pws_never)) (pws_nil))
theorem g_check_point {P : Program} {w : World} {K : PySem.W.Frag} {mg : Str → Option Value} {base : Heap} {fa : Addr} {fd : FuncData} (B : FreeB mg) (C_is_whole : CalD P w K mg base 1 "is_whole" ["thing"] (spF mg fs_is_whole)) (F : FunD K "check_point" "check_point" (defArgs st_check_point) (defBody st_check_point) (defScope st_check_point) [] [] fa fd) : FnG P w K mg base 2 fa fd ["point", "points"] (spF mg fs_check_point) :=
  fn_pure F sc_check_point (fun ds Q ex h => by obtain ⟨_, _, rfl, _⟩ := h; rfl) (fun cdv A outer s H E hg hr => d_check_point B C_is_whole hg hr) p_check_point
theorem b_check_point {K : PySem.W.Frag} {fa : Addr} {fd : FuncData} (F : FunD K "check_point" "check_point" (defArgs st_check_point) (defBody st_check_point) (defScope st_check_point) [] [] fa fd) : Binds K fd ["point", "points"] [] := F.bindsN fun _ _ _ _ _ _ us hl => match us, hl with | [_, _], _ => rfl
theorem c_check_point {P : Program} {w : World} {K : PySem.W.Frag} {mg : Str → Option Value} {base : Heap} {fa : Addr} {fd : FuncData} (B : FreeB mg) (C_is_whole : CalD P w K mg base 1 "is_whole" ["thing"] (spF mg fs_is_whole)) (F : FunD K "check_point" "check_point" (defArgs st_check_point) (defBody st_check_point) (defScope st_check_point) [] [] fa fd) (m : mg "check_point" = some (.ref fa)) : CalD P w K mg base 2 "check_point" ["point", "points"] (spF mg fs_check_point) := ⟨fa, fd, g_check_point B C_is_whole F, m, F.kp, b_check_point F⟩
abbrev st_turned_in : Stmt := top 23
theorem sc_turned_in : FnScope ["arrows", "point", "tail", "head"] ["arrows", "point"] (defScope st_turned_in) := ⟨rfl, rfl, rfl, by decide +kernel, rfl, by decide +kernel, by decide +kernel⟩
theorem d_turned_in {P : Program} {w : World} {K : PySem.W.Frag} {mg : Str → Option Value} {base : Heap} {f : Addr} {cdv : Value} {A : Around} {outer : List Env} {s : Shared} {H : Hp} {E : XK} (B : FreeB mg) (hg : (A.deeper (envOfC "turned_in" (defScope st_turned_in) s.heap.objs.size f cdv)).guards = some []) (hr : Room 0 (A.deeper (envOfC "turned_in" (defScope st_turned_in) s.heap.objs.size f cdv))) :
    PWSs (bX P w K mg base ["arrows", "point", "tail", "head"] "turned_in" (defScope st_turned_in) f cdv A outer s H E) E (defBody st_turned_in) w_turned_in :=
  pws_one (pws_ret (pw_lc (own := [("tail", 2), ("head", 3)]) rfl sc_turned_in.nd (blkOk_by (by kernel_rfl)) (pi_lst (pv_name 0)) (fun _ _ _ _ _ => pg_tp (n := 2) rfl (pwg_cons (pg_nm 2 sc_turned_in.nd (by first | exact Or.inl rfl | exact Or.inr rfl)) (pwg_cons (pg_nm 3 sc_turned_in.nd (by first | exact Or.inl rfl | exact Or.inr rfl)) (pwg_nil))) (len_name (len_name (len_nil)))) (fun _ _ _ _ _ => pwts_nil) (fun _ _ _ _ _ => pw_ifExp (pwt_cmp (o_eq (u64 hr)) (pw_var 3) (pw_var 1)) (pw_lst (pwa_cons (pw_var 3) (pwa_cons (pw_var 2) (pwa_nil)))) (pw_lst (pwa_cons (pw_var 2) (pwa_cons (pw_var 3) (pwa_nil))))) (by decide)))
theorem g_turned_in {P : Program} {w : World} {K : PySem.W.Frag} {mg : Str → Option Value} {base : Heap} {fa : Addr} {fd : FuncData} (B : FreeB mg)  (F : FunD K "turned_in" "turned_in" (defArgs st_turned_in) (defBody st_turned_in) (defScope st_turned_in) [] [] fa fd) : FnG P w K mg base 1 fa fd ["arrows", "point"] (spF mg fs_turned_in) :=
  fn_pure F sc_turned_in (fun ds Q ex h => by obtain ⟨_, _, rfl, _⟩ := h; rfl) (fun cdv A outer s H E hg hr => d_turned_in B  hg hr) p_turned_in
theorem b_turned_in {K : PySem.W.Frag} {fa : Addr} {fd : FuncData} (F : FunD K "turned_in" "turned_in" (defArgs st_turned_in) (defBody st_turned_in) (defScope st_turned_in) [] [] fa fd) : Binds K fd ["arrows", "point"] [] := F.bindsN fun _ _ _ _ _ _ us hl => match us, hl with | [_, _], _ => rfl
theorem c_turned_in {P : Program} {w : World} {K : PySem.W.Frag} {mg : Str → Option Value} {base : Heap} {fa : Addr} {fd : FuncData} (B : FreeB mg)  (F : FunD K "turned_in" "turned_in" (defArgs st_turned_in) (defBody st_turned_in) (defScope st_turned_in) [] [] fa fd) (m : mg "turned_in" = some (.ref fa)) : CalD P w K mg base 1 "turned_in" ["arrows", "point"] (spF mg fs_turned_in) := ⟨fa, fd, g_turned_in B  F, m, F.kp, b_turned_in F⟩
abbrev st_in_order : Stmt := top 21
theorem sc_in_order : FnScope ["arrows", "low", "high", "tail", "head", "one"] ["arrows"] (defScope st_in_order) := ⟨rfl, rfl, rfl, by decide +kernel, rfl, by decide +kernel, by decide +kernel⟩
theorem d_in_order {P : Program} {w : World} {K : PySem.W.Frag} {mg : Str → Option Value} {base : Heap} {f : Addr} {cdv : Value} {A : Around} {outer : List Env} {s : Shared} {H : Hp} {E : XK} (B : FreeB mg) (hg : (A.deeper (envOfC "in_order" (defScope st_in_order) s.heap.objs.size f cdv)).guards = some []) (hr : Room 0 (A.deeper (envOfC "in_order" (defScope st_in_order) s.heap.objs.size f cdv))) :
    PWSs (bX P w K mg base ["arrows", "low", "high", "tail", "head", "one"] "in_order" (defScope st_in_order) f cdv A outer s H E) E (defBody st_in_order) w_in_order :=
  pws_one (pws_ret (pw_lc (own := [("low", 1), ("high", 2), ("tail", 3), ("head", 4)]) rfl sc_in_order.nd (blkOk_by (by kernel_rfl)) (pi_lst (pv_of (pw_b1 (o_sorted (u64 hr)) B.sorted rfl (pv_of (pw_lc (own := [("one", 5)]) rfl sc_in_order.nd (blkOk_by (by kernel_rfl)) (pi_lst (pv_name 0)) (fun _ _ _ _ _ => pg_nm 5 sc_in_order.nd (by first | exact Or.inl rfl | exact Or.inr rfl)) (fun _ _ _ _ _ => pwts_nil) (fun _ _ _ _ _ => pw_tup (pwa_cons (pw_b1 (o_min rfl) B.min rfl (pv_name 5)) (pwa_cons (pw_b1 (o_max rfl) B.max rfl (pv_name 5)) (pwa_cons (pw_ix (u1 hr) (pv_name 5) (pw_int)) (pwa_cons (pw_ix (u1 hr) (pv_name 5) (pw_int)) (pwa_nil)))))) (by decide)))))) (fun _ _ _ _ _ => pg_tp (n := 4) rfl (pwg_cons (pg_nm 1 sc_in_order.nd (by first | exact Or.inl rfl | exact Or.inr rfl)) (pwg_cons (pg_nm 2 sc_in_order.nd (by first | exact Or.inl rfl | exact Or.inr rfl)) (pwg_cons (pg_nm 3 sc_in_order.nd (by first | exact Or.inl rfl | exact Or.inr rfl)) (pwg_cons (pg_nm 4 sc_in_order.nd (by first | exact Or.inl rfl | exact Or.inr rfl)) (pwg_nil))))) (len_name (len_name (len_name (len_name (len_nil)))))) (fun _ _ _ _ _ => pwts_nil) (fun _ _ _ _ _ => pw_lst (pwa_cons (pw_var 3) (pwa_cons (pw_var 4) (pwa_nil)))) (by decide)))
theorem g_in_order {P : Program} {w : World} {K : PySem.W.Frag} {mg : Str → Option Value} {base : Heap} {fa : Addr} {fd : FuncData} (B : FreeB mg)  (F : FunD K "in_order" "in_order" (defArgs st_in_order) (defBody st_in_order) (defScope st_in_order) [] [] fa fd) : FnG P w K mg base 1 fa fd ["arrows"] (spF mg fs_in_order) :=
  fn_pure F sc_in_order (fun ds Q ex h => by obtain ⟨_, rfl, _⟩ := h; rfl) (fun cdv A outer s H E hg hr => d_in_order B  hg hr) p_in_order
theorem b_in_order {K : PySem.W.Frag} {fa : Addr} {fd : FuncData} (F : FunD K "in_order" "in_order" (defArgs st_in_order) (defBody st_in_order) (defScope st_in_order) [] [] fa fd) : Binds K fd ["arrows"] [] := F.bindsN fun _ _ _ _ _ _ us hl => match us, hl with | [_], _ => rfl
theorem c_in_order {P : Program} {w : World} {K : PySem.W.Frag} {mg : Str → Option Value} {base : Heap} {fa : Addr} {fd : FuncData} (B : FreeB mg)  (F : FunD K "in_order" "in_order" (defArgs st_in_order) (defBody st_in_order) (defScope st_in_order) [] [] fa fd) (m : mg "in_order" = some (.ref fa)) : CalD P w K mg base 1 "in_order" ["arrows"] (spF mg fs_in_order) := ⟨fa, fd, g_in_order B  F, m, F.kp, b_in_order F⟩
abbrev st_turn : Stmt := top 26
theorem sc_turn : FnScope ["points", "arrows", "point"] ["points", "arrows", "point"] (defScope st_turn) := ⟨rfl, rfl, rfl, by decide +kernel, rfl, by decide +kernel, by decide +kernel⟩
theorem d_turn {P : Program} {w : World} {K : PySem.W.Frag} {mg : Str → Option Value} {base : Heap} {f : Addr} {cdv : Value} {A : Around} {outer : List Env} {s : Shared} {H : Hp} {E : XK} (B : FreeB mg) (C_check_both : CalD P w K mg base 5 "check_both" ["points", "arrows"] (spF mg fs_check_both)) (C_check_point : CalD P w K mg base 2 "check_point" ["point", "points"] (spF mg fs_check_point)) (C_may_in : CalD P w K mg base 1 "may_in" ["points", "arrows"] (spF mg fs_may_in)) (C_turned_in : CalD P w K mg base 1 "turned_in" ["arrows", "point"] (spF mg fs_turned_in)) (C_in_order : CalD P w K mg base 1 "in_order" ["arrows"] (spF mg fs_in_order)) (hg : (A.deeper (envOfC "turn" (defScope st_turn) s.heap.objs.size f cdv)).guards = some []) (hr : Room 5 (A.deeper (envOfC "turn" (defScope st_turn) s.heap.objs.size f cdv))) :
    PWSs (bX P w K mg base ["points", "arrows", "point"] "turn" (defScope st_turn) f cdv A outer s H E) E (defBody st_turn) w_turn :=
  pws_cons (pws_expr (pw_cd C_check_both hg hr pass_fn (pwa_cons (pw_var 0) (pwa_cons (pw_var 1) (pwa_nil))))) (pws_cons (pws_expr (pw_cd C_check_point hg hr pass_fn (pwa_cons (pw_var 2) (pwa_cons (pw_var 0) (pwa_nil))))) (pws_cons (pws_if (pwt_notin (u65 hr) (pw_var 2) (pv_of (pw_cd C_may_in hg hr pass_fn (pwa_cons (pw_var 0) (pwa_cons (pw_var 1) (pwa_nil)))))) (pws_one (pws_never)) (pws_nil)) (pws_one (pws_ret (pw_cd C_in_order hg hr pass_fn (pwa_cons (pw_cd C_turned_in hg hr pass_fn (pwa_cons (pw_var 1) (pwa_cons (pw_var 2) (pwa_nil)))) (pwa_nil)))))))
theorem g_turn {P : Program} {w : World} {K : PySem.W.Frag} {mg : Str → Option Value} {base : Heap} {fa : Addr} {fd : FuncData} (B : FreeB mg) (C_check_both : CalD P w K mg base 5 "check_both" ["points", "arrows"] (spF mg fs_check_both)) (C_check_point : CalD P w K mg base 2 "check_point" ["point", "points"] (spF mg fs_check_point)) (C_may_in : CalD P w K mg base 1 "may_in" ["points", "arrows"] (spF mg fs_may_in)) (C_turned_in : CalD P w K mg base 1 "turned_in" ["arrows", "point"] (spF mg fs_turned_in)) (C_in_order : CalD P w K mg base 1 "in_order" ["arrows"] (spF mg fs_in_order)) (F : FunD K "turn" "turn" (defArgs st_turn) (defBody st_turn) (defScope st_turn) [] [] fa fd) : FnG P w K mg base 6 fa fd ["points", "arrows", "point"] (spF mg fs_turn) :=
  fn_pure F sc_turn (fun ds Q ex h => by obtain ⟨_, _, _, rfl, _⟩ := h; rfl) (fun cdv A outer s H E hg hr => d_turn B C_check_both C_check_point C_may_in C_turned_in C_in_order hg hr) p_turn
theorem b_turn {K : PySem.W.Frag} {fa : Addr} {fd : FuncData} (F : FunD K "turn" "turn" (defArgs st_turn) (defBody st_turn) (defScope st_turn) [] [] fa fd) : Binds K fd ["points", "arrows", "point"] [] := F.bindsN fun _ _ _ _ _ _ us hl => match us, hl with | [_, _, _], _ => rfl
theorem c_turn {P : Program} {w : World} {K : PySem.W.Frag} {mg : Str → Option Value} {base : Heap} {fa : Addr} {fd : FuncData} (B : FreeB mg) (C_check_both : CalD P w K mg base 5 "check_both" ["points", "arrows"] (spF mg fs_check_both)) (C_check_point : CalD P w K mg base 2 "check_point" ["point", "points"] (spF mg fs_check_point)) (C_may_in : CalD P w K mg base 1 "may_in" ["points", "arrows"] (spF mg fs_may_in)) (C_turned_in : CalD P w K mg base 1 "turned_in" ["arrows", "point"] (spF mg fs_turned_in)) (C_in_order : CalD P w K mg base 1 "in_order" ["arrows"] (spF mg fs_in_order)) (F : FunD K "turn" "turn" (defArgs st_turn) (defBody st_turn) (defScope st_turn) [] [] fa fd) (m : mg "turn" = some (.ref fa)) : CalD P w K mg base 6 "turn" ["points", "arrows", "point"] (spF mg fs_turn) := ⟨fa, fd, g_turn B C_check_both C_check_point C_may_in C_turned_in C_in_order F, m, F.kp, b_turn F⟩
abbrev st__law_turned : Stmt := top 37
theorem sc__law_turned : FnScope ["_law_sides_here", "_law_spot", "_law_tail", "_law_head"] ["_law_sides_here", "_law_spot"] (defScope st__law_turned) := ⟨rfl, rfl, rfl, by decide +kernel, rfl, by decide +kernel, by decide +kernel⟩
theorem d__law_turned {P : Program} {w : World} {K : PySem.W.Frag} {mg : Str → Option Value} {base : Heap} {f : Addr} {cdv : Value} {A : Around} {outer : List Env} {s : Shared} {H : Hp} {E : XK} (B : FreeB mg) (hg : (A.deeper (envOfC "_law_turned" (defScope st__law_turned) s.heap.objs.size f cdv)).guards = some []) (hr : Room 0 (A.deeper (envOfC "_law_turned" (defScope st__law_turned) s.heap.objs.size f cdv))) :
    PWSs (bX P w K mg base ["_law_sides_here", "_law_spot", "_law_tail", "_law_head"] "_law_turned" (defScope st__law_turned) f cdv A outer s H E) E (defBody st__law_turned) w__law_turned :=
  pws_one (pws_ret (pw_lc (own := [("_law_tail", 2), ("_law_head", 3)]) rfl sc__law_turned.nd (blkOk_by (by kernel_rfl)) (pi_lst (pv_name 0)) (fun _ _ _ _ _ => pg_tp (n := 2) rfl (pwg_cons (pg_nm 2 sc__law_turned.nd (by first | exact Or.inl rfl | exact Or.inr rfl)) (pwg_cons (pg_nm 3 sc__law_turned.nd (by first | exact Or.inl rfl | exact Or.inr rfl)) (pwg_nil))) (len_name (len_name (len_nil)))) (fun _ _ _ _ _ => pwts_nil) (fun _ _ _ _ _ => pw_ifExp (pwt_cmp (o_eq (u64 hr)) (pw_var 3) (pw_var 1)) (pw_lst (pwa_cons (pw_var 3) (pwa_cons (pw_var 2) (pwa_nil)))) (pw_lst (pwa_cons (pw_var 2) (pwa_cons (pw_var 3) (pwa_nil))))) (by decide)))
theorem g__law_turned {P : Program} {w : World} {K : PySem.W.Frag} {mg : Str → Option Value} {base : Heap} {fa : Addr} {fd : FuncData} (B : FreeB mg)  (F : FunD K "_law_turned" "_law_turned" (defArgs st__law_turned) (defBody st__law_turned) (defScope st__law_turned) [] [] fa fd) : FnG P w K mg base 1 fa fd ["_law_sides_here", "_law_spot"] (spF mg fs__law_turned) :=
  fn_pure F sc__law_turned (fun ds Q ex h => by obtain ⟨_, _, rfl, _⟩ := h; rfl) (fun cdv A outer s H E hg hr => d__law_turned B  hg hr) p__law_turned
theorem b__law_turned {K : PySem.W.Frag} {fa : Addr} {fd : FuncData} (F : FunD K "_law_turned" "_law_turned" (defArgs st__law_turned) (defBody st__law_turned) (defScope st__law_turned) [] [] fa fd) : Binds K fd ["_law_sides_here", "_law_spot"] [] := F.bindsN fun _ _ _ _ _ _ us hl => match us, hl with | [_, _], _ => rfl
theorem c__law_turned {P : Program} {w : World} {K : PySem.W.Frag} {mg : Str → Option Value} {base : Heap} {fa : Addr} {fd : FuncData} (B : FreeB mg)  (F : FunD K "_law_turned" "_law_turned" (defArgs st__law_turned) (defBody st__law_turned) (defScope st__law_turned) [] [] fa fd) (m : mg "_law_turned" = some (.ref fa)) : CalD P w K mg base 1 "_law_turned" ["_law_sides_here", "_law_spot"] (spF mg fs__law_turned) := ⟨fa, fd, g__law_turned B  F, m, F.kp, b__law_turned F⟩
abbrev st__law_in_order : Stmt := top 38
theorem sc__law_in_order : FnScope ["_law_sides_here", "_law_side"] ["_law_sides_here"] (defScope st__law_in_order) := ⟨rfl, rfl, rfl, by decide +kernel, rfl, by decide +kernel, by decide +kernel⟩
theorem d__law_in_order {P : Program} {w : World} {K : PySem.W.Frag} {mg : Str → Option Value} {base : Heap} {f : Addr} {cdv : Value} {A : Around} {outer : List Env} {s : Shared} {H : Hp} {E : XK} (B : FreeB mg) (hg : (A.deeper (envOfC "_law_in_order" (defScope st__law_in_order) s.heap.objs.size f cdv)).guards = some []) (hr : Room 0 (A.deeper (envOfC "_law_in_order" (defScope st__law_in_order) s.heap.objs.size f cdv))) :
    PWSs (bX P w K mg base ["_law_sides_here", "_law_side"] "_law_in_order" (defScope st__law_in_order) f cdv A outer s H E) E (defBody st__law_in_order) w__law_in_order :=
  pws_one (pws_ret (pw_lc (own := [("_law_side", 1)]) rfl sc__law_in_order.nd (blkOk_by (by kernel_rfl)) (pi_lst (pv_of (pw_b1 (o_sorted (u64 hr)) B.sorted rfl (pv_of (pw_lc (own := [("_law_side", 1)]) rfl sc__law_in_order.nd (blkOk_by (by kernel_rfl)) (pi_lst (pv_name 0)) (fun _ _ _ _ _ => pg_nm 1 sc__law_in_order.nd (by first | exact Or.inl rfl | exact Or.inr rfl)) (fun _ _ _ _ _ => pwts_nil) (fun _ _ _ _ _ => pw_tup (pwa_cons (pw_lst (pwa_cons (pw_b1 (o_min rfl) B.min rfl (pv_name 1)) (pwa_cons (pw_b1 (o_max rfl) B.max rfl (pv_name 1)) (pwa_nil)))) (pwa_cons (pw_var 1) (pwa_nil)))) (by decide)))))) (fun _ _ _ _ _ => pg_nm 1 sc__law_in_order.nd (by first | exact Or.inl rfl | exact Or.inr rfl)) (fun _ _ _ _ _ => pwts_nil) (fun _ _ _ _ _ => pw_ix (u1 hr) (pv_name 1) (pw_int)) (by decide)))
theorem g__law_in_order {P : Program} {w : World} {K : PySem.W.Frag} {mg : Str → Option Value} {base : Heap} {fa : Addr} {fd : FuncData} (B : FreeB mg)  (F : FunD K "_law_in_order" "_law_in_order" (defArgs st__law_in_order) (defBody st__law_in_order) (defScope st__law_in_order) [] [] fa fd) : FnG P w K mg base 1 fa fd ["_law_sides_here"] (spF mg fs__law_in_order) :=
  fn_pure F sc__law_in_order (fun ds Q ex h => by obtain ⟨_, rfl, _⟩ := h; rfl) (fun cdv A outer s H E hg hr => d__law_in_order B  hg hr) p__law_in_order
theorem b__law_in_order {K : PySem.W.Frag} {fa : Addr} {fd : FuncData} (F : FunD K "_law_in_order" "_law_in_order" (defArgs st__law_in_order) (defBody st__law_in_order) (defScope st__law_in_order) [] [] fa fd) : Binds K fd ["_law_sides_here"] [] := F.bindsN fun _ _ _ _ _ _ us hl => match us, hl with | [_], _ => rfl
theorem c__law_in_order {P : Program} {w : World} {K : PySem.W.Frag} {mg : Str → Option Value} {base : Heap} {fa : Addr} {fd : FuncData} (B : FreeB mg)  (F : FunD K "_law_in_order" "_law_in_order" (defArgs st__law_in_order) (defBody st__law_in_order) (defScope st__law_in_order) [] [] fa fd) (m : mg "_law_in_order" = some (.ref fa)) : CalD P w K mg base 1 "_law_in_order" ["_law_sides_here"] (spF mg fs__law_in_order) := ⟨fa, fd, g__law_in_order B  F, m, F.kp, b__law_in_order F⟩
abbrev st__law_onward : Stmt := top 39
theorem sc__law_onward : FnScope ["_law_size", "_law_sides_here", "_law_spot", "_law_seen", "_law_step", "_law_tail", "_law_head"] ["_law_size", "_law_sides_here", "_law_spot"] (defScope st__law_onward) := ⟨rfl, rfl, rfl, by decide +kernel, rfl, by decide +kernel, by decide +kernel⟩
theorem d__law_onward {P : Program} {w : World} {K : PySem.W.Frag} {mg : Str → Option Value} {base : Heap} {f : Addr} {cdv : Value} {A : Around} {outer : List Env} {s : Shared} {H : Hp} {E : XK} (B : FreeB mg) (hg : (A.deeper (envOfC "_law_onward" (defScope st__law_onward) s.heap.objs.size f cdv)).guards = some []) (hr : Room 0 (A.deeper (envOfC "_law_onward" (defScope st__law_onward) s.heap.objs.size f cdv))) :
    PWSs (bX P w K mg base ["_law_size", "_law_sides_here", "_law_spot", "_law_seen", "_law_step", "_law_tail", "_law_head"] "_law_onward" (defScope st__law_onward) f cdv A outer s H E) E (defBody st__law_onward) w__law_onward :=
  pws_cons (pws_set 3 (pw_lc (own := [("_law_tail", 5), ("_law_head", 6)]) rfl sc__law_onward.nd (blkOk_by (by kernel_rfl)) (pi_lst (pv_name 1)) (fun _ _ _ _ _ => pg_tp (n := 2) rfl (pwg_cons (pg_nm 5 sc__law_onward.nd (by first | exact Or.inl rfl | exact Or.inr rfl)) (pwg_cons (pg_nm 6 sc__law_onward.nd (by first | exact Or.inl rfl | exact Or.inr rfl)) (pwg_nil))) (len_name (len_name (len_nil)))) (fun _ _ _ _ _ => pwts_one (pwt_cmp (o_eq (u64 hr)) (pw_var 5) (pw_var 2))) (fun _ _ _ _ _ => pw_var 6) (by decide)) sc__law_onward.nd) (pws_cons (pws_for own_fn rfl (pi_rng1 B.range (pw_var 0)) (pg_nm 4 sc__law_onward.nd (by first | exact Or.inl rfl | exact Or.inr rfl)) (pws_one (pws_set 3 (pw_sortSet rfl B.sorted B.set rfl rfl (pw_bin o_add (pw_var 3) (pw_lc (own := [("_law_tail", 5), ("_law_head", 6)]) rfl sc__law_onward.nd (blkOk_by (by kernel_rfl)) (pi_lst (pv_name 1)) (fun _ _ _ _ _ => pg_tp (n := 2) rfl (pwg_cons (pg_nm 5 sc__law_onward.nd (by first | exact Or.inl rfl | exact Or.inr rfl)) (pwg_cons (pg_nm 6 sc__law_onward.nd (by first | exact Or.inl rfl | exact Or.inr rfl)) (pwg_nil))) (len_name (len_name (len_nil)))) (fun _ _ _ _ _ => pwts_one (pwt_in (u65 hr) (pw_var 5) (pv_name 3))) (fun _ _ _ _ _ => pw_var 6) (by decide)))) sc__law_onward.nd))) (pws_one (pws_ret (pw_var 3))))
theorem g__law_onward {P : Program} {w : World} {K : PySem.W.Frag} {mg : Str → Option Value} {base : Heap} {fa : Addr} {fd : FuncData} (B : FreeB mg)  (F : FunD K "_law_onward" "_law_onward" (defArgs st__law_onward) (defBody st__law_onward) (defScope st__law_onward) [] [] fa fd) : FnG P w K mg base 1 fa fd ["_law_size", "_law_sides_here", "_law_spot"] (spF mg fs__law_onward) :=
  fn_pure F sc__law_onward (fun ds Q ex h => by obtain ⟨_, _, _, rfl, _⟩ := h; rfl) (fun cdv A outer s H E hg hr => d__law_onward B  hg hr) p__law_onward
theorem b__law_onward {K : PySem.W.Frag} {fa : Addr} {fd : FuncData} (F : FunD K "_law_onward" "_law_onward" (defArgs st__law_onward) (defBody st__law_onward) (defScope st__law_onward) [] [] fa fd) : Binds K fd ["_law_size", "_law_sides_here", "_law_spot"] [] := F.bindsN fun _ _ _ _ _ _ us hl => match us, hl with | [_, _, _], _ => rfl
theorem c__law_onward {P : Program} {w : World} {K : PySem.W.Frag} {mg : Str → Option Value} {base : Heap} {fa : Addr} {fd : FuncData} (B : FreeB mg)  (F : FunD K "_law_onward" "_law_onward" (defArgs st__law_onward) (defBody st__law_onward) (defScope st__law_onward) [] [] fa fd) (m : mg "_law_onward" = some (.ref fa)) : CalD P w K mg base 1 "_law_onward" ["_law_size", "_law_sides_here", "_law_spot"] (spF mg fs__law_onward) := ⟨fa, fd, g__law_onward B  F, m, F.kp, b__law_onward F⟩
abbrev st__law_barred : Stmt := top 40
theorem sc__law_barred : FnScope ["_law_size", "_law_sides_here", "_law_onward_here", "_law_rings", "_law_spot", "_law_mate"] ["_law_size", "_law_sides_here"] (defScope st__law_barred) := ⟨rfl, rfl, rfl, by decide +kernel, rfl, by decide +kernel, by decide +kernel⟩
theorem d__law_barred {P : Program} {w : World} {K : PySem.W.Frag} {mg : Str → Option Value} {base : Heap} {f : Addr} {cdv : Value} {A : Around} {outer : List Env} {s : Shared} {H : Hp} {E : XK} (B : FreeB mg) (C__law_onward : CalD P w K mg base 1 "_law_onward" ["_law_size", "_law_sides_here", "_law_spot"] (spF mg fs__law_onward)) (hg : (A.deeper (envOfC "_law_barred" (defScope st__law_barred) s.heap.objs.size f cdv)).guards = some []) (hr : Room 1 (A.deeper (envOfC "_law_barred" (defScope st__law_barred) s.heap.objs.size f cdv))) :
    PWSs (bX P w K mg base ["_law_size", "_law_sides_here", "_law_onward_here", "_law_rings", "_law_spot", "_law_mate"] "_law_barred" (defScope st__law_barred) f cdv A outer s H E) E (defBody st__law_barred) w__law_barred :=
  pws_cons (pws_set 2 (pw_lc (own := [("_law_spot", 4)]) rfl sc__law_barred.nd (blkOk_by (by kernel_rfl)) (pi_rng2 B.range (pw_int) (pw_bin o_add (pw_var 0) (pw_int))) (fun _ _ _ _ _ => pg_nm 4 sc__law_barred.nd (by first | exact Or.inl rfl | exact Or.inr rfl)) (fun _ _ _ _ _ => pwts_nil) (fun _ _ _ _ _ => pw_cd C__law_onward hg hr pass0 (pwa_cons (pw_var 0) (pwa_cons (pw_var 1) (pwa_cons (pw_var 4) (pwa_nil))))) (by decide)) sc__law_barred.nd) (pws_cons (pws_set 3 (pw_lc (own := [("_law_spot", 4)]) rfl sc__law_barred.nd (blkOk_by (by kernel_rfl)) (pi_rng2 B.range (pw_int) (pw_bin o_add (pw_var 0) (pw_int))) (fun _ _ _ _ _ => pg_nm 4 sc__law_barred.nd (by first | exact Or.inl rfl | exact Or.inr rfl)) (fun _ _ _ _ _ => pwts_one (pwt_in (u65 hr) (pw_var 4) (pv_of (pw_ix (u1 hr) (pv_name 2) (pw_bin o_sub (pw_var 4) (pw_int)))))) (fun _ _ _ _ _ => pw_var 4) (by decide)) sc__law_barred.nd) (pws_one (pws_ret (pw_lc (own := [("_law_spot", 4)]) rfl sc__law_barred.nd (blkOk_by (by kernel_rfl)) (pi_rng2 B.range (pw_int) (pw_bin o_add (pw_var 0) (pw_int))) (fun _ _ _ _ _ => pg_nm 4 sc__law_barred.nd (by first | exact Or.inl rfl | exact Or.inr rfl)) (fun _ _ _ _ _ => pwts_one (pwt_cmp (o_ne (u64 hr)) (pw_lc (own := [("_law_mate", 5)]) rfl sc__law_barred.nd (blkOk_by (by kernel_rfl)) (pi_lst (pv_name 3)) (fun _ _ _ _ _ => pg_nm 5 sc__law_barred.nd (by first | exact Or.inl rfl | exact Or.inr rfl)) (fun _ _ _ _ _ => pwts_one (pwt_in (u65 hr) (pw_var 5) (pv_of (pw_ix (u1 hr) (pv_name 2) (pw_bin o_sub (pw_var 4) (pw_int)))))) (fun _ _ _ _ _ => pw_var 5) (by decide)) (pw_lst (pwa_nil)))) (fun _ _ _ _ _ => pw_var 4) (by decide)))))
theorem g__law_barred {P : Program} {w : World} {K : PySem.W.Frag} {mg : Str → Option Value} {base : Heap} {fa : Addr} {fd : FuncData} (B : FreeB mg) (C__law_onward : CalD P w K mg base 1 "_law_onward" ["_law_size", "_law_sides_here", "_law_spot"] (spF mg fs__law_onward)) (F : FunD K "_law_barred" "_law_barred" (defArgs st__law_barred) (defBody st__law_barred) (defScope st__law_barred) [] [] fa fd) : FnG P w K mg base 2 fa fd ["_law_size", "_law_sides_here"] (spF mg fs__law_barred) :=
  fn_pure F sc__law_barred (fun ds Q ex h => by obtain ⟨_, _, rfl, _⟩ := h; rfl) (fun cdv A outer s H E hg hr => d__law_barred B C__law_onward hg hr) p__law_barred
theorem b__law_barred {K : PySem.W.Frag} {fa : Addr} {fd : FuncData} (F : FunD K "_law_barred" "_law_barred" (defArgs st__law_barred) (defBody st__law_barred) (defScope st__law_barred) [] [] fa fd) : Binds K fd ["_law_size", "_law_sides_here"] [] := F.bindsN fun _ _ _ _ _ _ us hl => match us, hl with | [_, _], _ => rfl
theorem c__law_barred {P : Program} {w : World} {K : PySem.W.Frag} {mg : Str → Option Value} {base : Heap} {fa : Addr} {fd : FuncData} (B : FreeB mg) (C__law_onward : CalD P w K mg base 1 "_law_onward" ["_law_size", "_law_sides_here", "_law_spot"] (spF mg fs__law_onward)) (F : FunD K "_law_barred" "_law_barred" (defArgs st__law_barred) (defBody st__law_barred) (defScope st__law_barred) [] [] fa fd) (m : mg "_law_barred" = some (.ref fa)) : CalD P w K mg base 2 "_law_barred" ["_law_size", "_law_sides_here"] (spF mg fs__law_barred) := ⟨fa, fd, g__law_barred B C__law_onward F, m, F.kp, b__law_barred F⟩
abbrev st__law_may : Stmt := top 36
theorem sc__law_may : FnScope ["_law_size", "_law_sides_here", "_law_tails", "_law_tail", "_law_head", "_law_spot"] ["_law_size", "_law_sides_here"] (defScope st__law_may) := ⟨rfl, rfl, rfl, by decide +kernel, rfl, by decide +kernel, by decide +kernel⟩
theorem d__law_may {P : Program} {w : World} {K : PySem.W.Frag} {mg : Str → Option Value} {base : Heap} {f : Addr} {cdv : Value} {A : Around} {outer : List Env} {s : Shared} {H : Hp} {E : XK} (B : FreeB mg) (hg : (A.deeper (envOfC "_law_may" (defScope st__law_may) s.heap.objs.size f cdv)).guards = some []) (hr : Room 0 (A.deeper (envOfC "_law_may" (defScope st__law_may) s.heap.objs.size f cdv))) :
    PWSs (bX P w K mg base ["_law_size", "_law_sides_here", "_law_tails", "_law_tail", "_law_head", "_law_spot"] "_law_may" (defScope st__law_may) f cdv A outer s H E) E (defBody st__law_may) w__law_may :=
  pws_cons (pws_set 2 (pw_lc (own := [("_law_tail", 3), ("_law_head", 4)]) rfl sc__law_may.nd (blkOk_by (by kernel_rfl)) (pi_lst (pv_name 1)) (fun _ _ _ _ _ => pg_tp (n := 2) rfl (pwg_cons (pg_nm 3 sc__law_may.nd (by first | exact Or.inl rfl | exact Or.inr rfl)) (pwg_cons (pg_nm 4 sc__law_may.nd (by first | exact Or.inl rfl | exact Or.inr rfl)) (pwg_nil))) (len_name (len_name (len_nil)))) (fun _ _ _ _ _ => pwts_nil) (fun _ _ _ _ _ => pw_var 3) (by decide)) sc__law_may.nd) (pws_one (pws_ret (pw_lc (own := [("_law_spot", 5)]) rfl sc__law_may.nd (blkOk_by (by kernel_rfl)) (pi_rng2 B.range (pw_int) (pw_bin o_add (pw_var 0) (pw_int))) (fun _ _ _ _ _ => pg_nm 5 sc__law_may.nd (by first | exact Or.inl rfl | exact Or.inr rfl)) (fun _ _ _ _ _ => pwts_one (pwt_notin (u65 hr) (pw_var 5) (pv_name 2))) (fun _ _ _ _ _ => pw_var 5) (by decide))))
theorem g__law_may {P : Program} {w : World} {K : PySem.W.Frag} {mg : Str → Option Value} {base : Heap} {fa : Addr} {fd : FuncData} (B : FreeB mg)  (F : FunD K "_law_may" "_law_may" (defArgs st__law_may) (defBody st__law_may) (defScope st__law_may) [] [] fa fd) : FnG P w K mg base 1 fa fd ["_law_size", "_law_sides_here"] (spF mg fs__law_may) :=
  fn_pure F sc__law_may (fun ds Q ex h => by obtain ⟨_, _, rfl, _⟩ := h; rfl) (fun cdv A outer s H E hg hr => d__law_may B  hg hr) p__law_may
theorem b__law_may {K : PySem.W.Frag} {fa : Addr} {fd : FuncData} (F : FunD K "_law_may" "_law_may" (defArgs st__law_may) (defBody st__law_may) (defScope st__law_may) [] [] fa fd) : Binds K fd ["_law_size", "_law_sides_here"] [] := F.bindsN fun _ _ _ _ _ _ us hl => match us, hl with | [_, _], _ => rfl
theorem c__law_may {P : Program} {w : World} {K : PySem.W.Frag} {mg : Str → Option Value} {base : Heap} {fa : Addr} {fd : FuncData} (B : FreeB mg)  (F : FunD K "_law_may" "_law_may" (defArgs st__law_may) (defBody st__law_may) (defScope st__law_may) [] [] fa fd) (m : mg "_law_may" = some (.ref fa)) : CalD P w K mg base 1 "_law_may" ["_law_size", "_law_sides_here"] (spF mg fs__law_may) := ⟨fa, fd, g__law_may B  F, m, F.kp, b__law_may F⟩
abbrev st__law_right : Stmt := top 42
theorem sc__law_right : FnScope ["_law_draws_here", "_law_size", "_law_sides_here", "_law_kept", "_law_due", "_law_told", "_law_named", "_law_beside", "_law_spot", "_law_later", "_law_side"] ["_law_draws_here", "_law_size", "_law_sides_here"] (defScope st__law_right) := ⟨rfl, rfl, rfl, by decide +kernel, rfl, by decide +kernel, by decide +kernel⟩
theorem d__law_right {P : Program} {w : World} {K : PySem.W.Frag} {mg : Str → Option Value} {base : Heap} {f : Addr} {cdv : Value} {A : Around} {outer : List Env} {s : Shared} {H : Hp} {E : XK} (B : FreeB mg) (C_barred : CalD P w K mg base 6 "barred" ["points", "arrows"] (spF mg fs_barred)) (C_may_turn : CalD P w K mg base 6 "may_turn" ["points", "arrows"] (spF mg fs_may_turn)) (K_barred_arrows_points : CalK P w K mg base 6 "barred" ["points", "arrows"] (spF mg fs_barred) ["arrows", "points"] [1, 0]) (K_may_turn_arrows_points : CalK P w K mg base 6 "may_turn" ["points", "arrows"] (spF mg fs_may_turn) ["arrows", "points"] [1, 0]) (C__law_shuffled : CalD P w K mg base 2 "_law_shuffled" ["_law_draws_here", "_law_things"] (spM fs__law_shuffled)) (K_turn_point_arrows_points : CalK P w K mg base 6 "turn" ["points", "arrows", "point"] (spF mg fs_turn) ["point", "arrows", "points"] [2, 1, 0]) (C_turn : CalD P w K mg base 6 "turn" ["points", "arrows", "point"] (spF mg fs_turn)) (C__law_turned : CalD P w K mg base 1 "_law_turned" ["_law_sides_here", "_law_spot"] (spF mg fs__law_turned)) (C__law_in_order : CalD P w K mg base 1 "_law_in_order" ["_law_sides_here"] (spF mg fs__law_in_order)) (C__law_barred : CalD P w K mg base 2 "_law_barred" ["_law_size", "_law_sides_here"] (spF mg fs__law_barred)) (C__law_may : CalD P w K mg base 1 "_law_may" ["_law_size", "_law_sides_here"] (spF mg fs__law_may)) (hg : (A.deeper (envOfC "_law_right" (defScope st__law_right) s.heap.objs.size f cdv)).guards = some []) (hr : Room 6 (A.deeper (envOfC "_law_right" (defScope st__law_right) s.heap.objs.size f cdv))) :
    PWSs (bX P w K mg base ["_law_draws_here", "_law_size", "_law_sides_here", "_law_kept", "_law_due", "_law_told", "_law_named", "_law_beside", "_law_spot", "_law_later", "_law_side"] "_law_right" (defScope st__law_right) f cdv A outer s H E) E (defBody st__law_right) w__law_right :=
  pws_cons (pws_set 3 (pw_b1 (o_repr hg (u64 hr)) B.repr rfl (pv_name 2)) sc__law_right.nd) (pws_cons (pws_set 4 (pw_lst (pwa_cons (pw_cd C__law_may hg hr pass_fn (pwa_cons (pw_var 1) (pwa_cons (pw_var 2) (pwa_nil)))) (pwa_cons (pw_cd C__law_barred hg hr pass_fn (pwa_cons (pw_var 1) (pwa_cons (pw_var 2) (pwa_nil)))) (pwa_nil)))) sc__law_right.nd) (pws_blk (pwb_cons (pws_set 5 (pw_lst (pwa_cons (pw_cd C_may_turn hg hr pass_fn (pwa_cons (pw_var 1) (pwa_cons (pw_var 2) (pwa_nil)))) (pwa_cons (pw_cd C_barred hg hr pass_fn (pwa_cons (pw_var 1) (pwa_cons (pw_var 2) (pwa_nil)))) (pwa_nil)))) sc__law_right.nd) (pwb_cons (pws_set 6 (pw_lst (pwa_cons (pw_ck K_may_turn_arrows_points hg hr pass_fn (pwk_cons (pw_var 2) (pwk_cons (pw_var 1) (pwk_nil)))) (pwa_cons (pw_ck K_barred_arrows_points hg hr pass_fn (pwk_cons (pw_var 2) (pwk_cons (pw_var 1) (pwk_nil)))) (pwa_nil)))) sc__law_right.nd) (pwb_cons (pws_if (pwt_of (pww_or (pwt_cmp (o_ne (u64 hr)) (pw_b1 (o_repr hg (u64 hr)) B.repr rfl (pv_of (pw_lst (pwa_cons (pw_var 5) (pwa_cons (pw_var 6) (pwa_nil)))))) (pw_b1 (o_repr hg (u64 hr)) B.repr rfl (pv_of (pw_lst (pwa_cons (pw_var 4) (pwa_cons (pw_var 4) (pwa_nil))))))) (pww_or1 (pwt_cmp (o_ne (u64 hr)) (pw_b1 (o_repr hg (u64 hr)) B.repr rfl (pv_name 2)) (pw_var 3))))) (pws_one (pws_ret (pw_bl))) (pws_nil)) (pwb_sp (pwj_sp1 5 0 (pwj_sp1 5 1 (pwj_end (pws_cons (pws_if (pwt_cmp (o_ne (u64 hr)) (pw_b1 (o_repr hg (u64 hr)) B.repr rfl (pv_of (pw_lst (pwa_cons (pw_cd C_may_turn hg hr pass_fn (pwa_cons (pw_var 1) (pwa_cons (pw_var 2) (pwa_nil)))) (pwa_cons (pw_cd C_barred hg hr pass_fn (pwa_cons (pw_var 1) (pwa_cons (pw_var 2) (pwa_nil)))) (pwa_nil)))))) (pw_b1 (o_repr hg (u64 hr)) B.repr rfl (pv_name 4))) (pws_one (pws_ret (pw_bl))) (pws_nil)) (pws_cons (pws_if (pwt_cmp (o_ne (u64 hr)) (pw_lc (own := [("_law_side", 10)]) rfl sc__law_right.nd (blkOk_by (by kernel_rfl)) (pi_lst (pv_name 2)) (fun _ _ _ _ _ => pg_nm 10 sc__law_right.nd (by first | exact Or.inl rfl | exact Or.inr rfl)) (fun _ _ _ _ _ => pwts_one (pwt_of (pww_and (pwt_in (u65 hr) (pw_ix (u1 hr) (pv_name 10) (pw_int)) (pv_of (pw_ix (u1 hr) (pv_name 4) (pw_int)))) (pww_and1 (pwt_in (u65 hr) (pw_ix (u1 hr) (pv_name 10) (pw_int)) (pv_of (pw_ix (u1 hr) (pv_name 4) (pw_int)))))))) (fun _ _ _ _ _ => pw_var 10) (by decide)) (pw_lst (pwa_nil))) (pws_one (pws_ret (pw_bl))) (pws_nil)) (pws_cons (pws_set 7 (pw_cm 0 C__law_shuffled hg hr pass_fn (pwa_cons (pw_var 2) (pwa_nil))) sc__law_right.nd) (pws_cons (pws_for own_fn rfl (pi_lst (pv_of (pw_ix (u1 hr) (pv_name 4) (pw_int)))) (pg_nm 8 sc__law_right.nd (by first | exact Or.inl rfl | exact Or.inr rfl)) (pws_cons (pws_set 9 (pw_cd C__law_in_order hg hr pass_fn (pwa_cons (pw_cd C__law_turned hg hr pass_fn (pwa_cons (pw_var 2) (pwa_cons (pw_var 8) (pwa_nil)))) (pwa_nil))) sc__law_right.nd) (pws_blk (pwb_cons (pws_set 5 (pw_lst (pwa_cons (pw_cd C_turn hg hr pass_fn (pwa_cons (pw_var 1) (pwa_cons (pw_var 2) (pwa_cons (pw_var 8) (pwa_nil))))) (pwa_cons (pw_ck K_turn_point_arrows_points hg hr pass_fn (pwk_cons (pw_var 8) (pwk_cons (pw_var 7) (pwk_cons (pw_var 1) (pwk_nil))))) (pwa_nil)))) sc__law_right.nd) (pwb_cons (pws_if (pwt_of (pww_or (pwt_cmp (o_ne (u64 hr)) (pw_b1 (o_repr hg (u64 hr)) B.repr rfl (pv_name 5)) (pw_b1 (o_repr hg (u64 hr)) B.repr rfl (pv_of (pw_lst (pwa_cons (pw_var 9) (pwa_cons (pw_var 9) (pwa_nil))))))) (pww_or1 (pwt_cmp (o_ne (u64 hr)) (pw_b1 (o_repr hg (u64 hr)) B.repr rfl (pv_name 2)) (pw_var 3))))) (pws_one (pws_ret (pw_bl))) (pws_nil)) (pwb_sp (pwj_sp2 5 0 10 own_fn rfl sc__law_right.nd (pwj_sp1 5 0 (pwj_end (pws_one (pws_if (pwt_cmp (o_ne (u64 hr)) (pw_b1 (o_repr hg (u64 hr)) B.repr rfl (pv_of (pw_cd C_turn hg hr pass_fn (pwa_cons (pw_var 1) (pwa_cons (pw_var 2) (pwa_cons (pw_var 8) (pwa_nil))))))) (pw_b1 (o_repr hg (u64 hr)) B.repr rfl (pv_name 9))) (pws_one (pws_ret (pw_bl))) (pws_nil)))))))))))) (pws_one (pws_ret (pw_bl))))))))))))))))
theorem g__law_right {P : Program} {w : World} {K : PySem.W.Frag} {mg : Str → Option Value} {base : Heap} {fa : Addr} {fd : FuncData} (B : FreeB mg) (C_barred : CalD P w K mg base 6 "barred" ["points", "arrows"] (spF mg fs_barred)) (C_may_turn : CalD P w K mg base 6 "may_turn" ["points", "arrows"] (spF mg fs_may_turn)) (K_barred_arrows_points : CalK P w K mg base 6 "barred" ["points", "arrows"] (spF mg fs_barred) ["arrows", "points"] [1, 0]) (K_may_turn_arrows_points : CalK P w K mg base 6 "may_turn" ["points", "arrows"] (spF mg fs_may_turn) ["arrows", "points"] [1, 0]) (C__law_shuffled : CalD P w K mg base 2 "_law_shuffled" ["_law_draws_here", "_law_things"] (spM fs__law_shuffled)) (K_turn_point_arrows_points : CalK P w K mg base 6 "turn" ["points", "arrows", "point"] (spF mg fs_turn) ["point", "arrows", "points"] [2, 1, 0]) (C_turn : CalD P w K mg base 6 "turn" ["points", "arrows", "point"] (spF mg fs_turn)) (C__law_turned : CalD P w K mg base 1 "_law_turned" ["_law_sides_here", "_law_spot"] (spF mg fs__law_turned)) (C__law_in_order : CalD P w K mg base 1 "_law_in_order" ["_law_sides_here"] (spF mg fs__law_in_order)) (C__law_barred : CalD P w K mg base 2 "_law_barred" ["_law_size", "_law_sides_here"] (spF mg fs__law_barred)) (C__law_may : CalD P w K mg base 1 "_law_may" ["_law_size", "_law_sides_here"] (spF mg fs__law_may)) (F : FunD K "_law_right" "_law_right" (defArgs st__law_right) (defBody st__law_right) (defScope st__law_right) [] [] fa fd) : FnG P w K mg base 7 fa fd ["_law_draws_here", "_law_size", "_law_sides_here"] (spM fs__law_right) :=
  fn_pureM F sc__law_right (fun os ds Q h => by obtain ⟨_, _, _, rfl, _⟩ := h; rfl) (fun cdv A outer s H E hg hr => d__law_right B C_barred C_may_turn K_barred_arrows_points K_may_turn_arrows_points C__law_shuffled K_turn_point_arrows_points C_turn C__law_turned C__law_in_order C__law_barred C__law_may hg hr) p__law_right
theorem b__law_right {K : PySem.W.Frag} {fa : Addr} {fd : FuncData} (F : FunD K "_law_right" "_law_right" (defArgs st__law_right) (defBody st__law_right) (defScope st__law_right) [] [] fa fd) : Binds K fd ["_law_draws_here", "_law_size", "_law_sides_here"] [] := F.bindsN fun _ _ _ _ _ _ us hl => match us, hl with | [_, _, _], _ => rfl
theorem c__law_right {P : Program} {w : World} {K : PySem.W.Frag} {mg : Str → Option Value} {base : Heap} {fa : Addr} {fd : FuncData} (B : FreeB mg) (C_barred : CalD P w K mg base 6 "barred" ["points", "arrows"] (spF mg fs_barred)) (C_may_turn : CalD P w K mg base 6 "may_turn" ["points", "arrows"] (spF mg fs_may_turn)) (K_barred_arrows_points : CalK P w K mg base 6 "barred" ["points", "arrows"] (spF mg fs_barred) ["arrows", "points"] [1, 0]) (K_may_turn_arrows_points : CalK P w K mg base 6 "may_turn" ["points", "arrows"] (spF mg fs_may_turn) ["arrows", "points"] [1, 0]) (C__law_shuffled : CalD P w K mg base 2 "_law_shuffled" ["_law_draws_here", "_law_things"] (spM fs__law_shuffled)) (K_turn_point_arrows_points : CalK P w K mg base 6 "turn" ["points", "arrows", "point"] (spF mg fs_turn) ["point", "arrows", "points"] [2, 1, 0]) (C_turn : CalD P w K mg base 6 "turn" ["points", "arrows", "point"] (spF mg fs_turn)) (C__law_turned : CalD P w K mg base 1 "_law_turned" ["_law_sides_here", "_law_spot"] (spF mg fs__law_turned)) (C__law_in_order : CalD P w K mg base 1 "_law_in_order" ["_law_sides_here"] (spF mg fs__law_in_order)) (C__law_barred : CalD P w K mg base 2 "_law_barred" ["_law_size", "_law_sides_here"] (spF mg fs__law_barred)) (C__law_may : CalD P w K mg base 1 "_law_may" ["_law_size", "_law_sides_here"] (spF mg fs__law_may)) (F : FunD K "_law_right" "_law_right" (defArgs st__law_right) (defBody st__law_right) (defScope st__law_right) [] [] fa fd) (m : mg "_law_right" = some (.ref fa)) : CalD P w K mg base 7 "_law_right" ["_law_draws_here", "_law_size", "_law_sides_here"] (spM fs__law_right) := ⟨fa, fd, g__law_right B C_barred C_may_turn K_barred_arrows_points K_may_turn_arrows_points C__law_shuffled K_turn_point_arrows_points C_turn C__law_turned C__law_in_order C__law_barred C__law_may F, m, F.kp, b__law_right F⟩
abbrev st_check_turns : Stmt := top 20
theorem sc_check_turns : FnScope ["turns", "points", "index", "point"] ["turns", "points"] (defScope st_check_turns) := ⟨rfl, rfl, rfl, by decide +kernel, rfl, by decide +kernel, by decide +kernel⟩
theorem d_check_turns {P : Program} {w : World} {K : PySem.W.Frag} {mg : Str → Option Value} {base : Heap} {f : Addr} {cdv : Value} {A : Around} {outer : List Env} {s : Shared} {H : Hp} {E : XK} (B : FreeB mg) (C_is_whole : CalD P w K mg base 1 "is_whole" ["thing"] (spF mg fs_is_whole)) (hg : (A.deeper (envOfC "check_turns" (defScope st_check_turns) s.heap.objs.size f cdv)).guards = some []) (hr : Room 1 (A.deeper (envOfC "check_turns" (defScope st_check_turns) s.heap.objs.size f cdv))) :
    PWSs (bX P w K mg base ["turns", "points", "index", "point"] "check_turns" (defScope st_check_turns) f cdv A outer s H E) E (defBody st_check_turns) w_check_turns :=
  pws_cons (pws_if (pwt_not (pwt_val (pw_isi kit_list B.isinstance B.list rfl rfl (pv_name 0)))) (pws_one (pws_never)) (pws_nil)) (pws_one (pws_for own_fn rfl (pi_en B.enumerate (pv_name 0)) (pg_tp (n := 2) rfl (pwg_cons (pg_nm 2 sc_check_turns.nd (by first | exact Or.inl rfl | exact Or.inr rfl)) (pwg_cons (pg_nm 3 sc_check_turns.nd (by first | exact Or.inl rfl | exact Or.inr rfl)) (pwg_nil))) (len_name (len_name (len_nil)))) (pws_one (pws_if (pwt_of (pww_or (pwt_not (pwt_val (pw_cd C_is_whole hg hr pass_fn (pwa_cons (pw_var 3) (pwa_nil))))) (pww_or1 (pwt_not (pwt_chain o_le o_le (pw_int) (pw_var 3) (pw_var 1)))))) (pws_one (pws_never)) (pws_nil)))))
theorem g_check_turns {P : Program} {w : World} {K : PySem.W.Frag} {mg : Str → Option Value} {base : Heap} {fa : Addr} {fd : FuncData} (B : FreeB mg) (C_is_whole : CalD P w K mg base 1 "is_whole" ["thing"] (spF mg fs_is_whole)) (F : FunD K "check_turns" "check_turns" (defArgs st_check_turns) (defBody st_check_turns) (defScope st_check_turns) [] [] fa fd) : FnG P w K mg base 2 fa fd ["turns", "points"] (spF mg fs_check_turns) :=
  fn_pure F sc_check_turns (fun ds Q ex h => by obtain ⟨_, _, rfl, _⟩ := h; rfl) (fun cdv A outer s H E hg hr => d_check_turns B C_is_whole hg hr) p_check_turns
theorem b_check_turns {K : PySem.W.Frag} {fa : Addr} {fd : FuncData} (F : FunD K "check_turns" "check_turns" (defArgs st_check_turns) (defBody st_check_turns) (defScope st_check_turns) [] [] fa fd) : Binds K fd ["turns", "points"] [] := F.bindsN fun _ _ _ _ _ _ us hl => match us, hl with | [_, _], _ => rfl
theorem c_check_turns {P : Program} {w : World} {K : PySem.W.Frag} {mg : Str → Option Value} {base : Heap} {fa : Addr} {fd : FuncData} (B : FreeB mg) (C_is_whole : CalD P w K mg base 1 "is_whole" ["thing"] (spF mg fs_is_whole)) (F : FunD K "check_turns" "check_turns" (defArgs st_check_turns) (defBody st_check_turns) (defScope st_check_turns) [] [] fa fd) (m : mg "check_turns" = some (.ref fa)) : CalD P w K mg base 2 "check_turns" ["turns", "points"] (spF mg fs_check_turns) := ⟨fa, fd, g_check_turns B C_is_whole F, m, F.kp, b_check_turns F⟩
abbrev st_after_in : Stmt := top 27
theorem sc_after_in : FnScope ["points", "arrows", "turns", "index", "point"] ["points", "arrows", "turns"] (defScope st_after_in) := ⟨rfl, rfl, rfl, by decide +kernel, rfl, by decide +kernel, by decide +kernel⟩
theorem d_after_in {P : Program} {w : World} {K : PySem.W.Frag} {mg : Str → Option Value} {base : Heap} {f : Addr} {cdv : Value} {A : Around} {outer : List Env} {s : Shared} {H : Hp} {E : XK} (B : FreeB mg) (C_may_in : CalD P w K mg base 1 "may_in" ["points", "arrows"] (spF mg fs_may_in)) (C_turned_in : CalD P w K mg base 1 "turned_in" ["arrows", "point"] (spF mg fs_turned_in)) (hg : (A.deeper (envOfC "after_in" (defScope st_after_in) s.heap.objs.size f cdv)).guards = some []) (hr : Room 1 (A.deeper (envOfC "after_in" (defScope st_after_in) s.heap.objs.size f cdv))) :
    PWSs (bX P w K mg base ["points", "arrows", "turns", "index", "point"] "after_in" (defScope st_after_in) f cdv A outer s H E) E (defBody st_after_in) w_after_in :=
  pws_cons (pws_for own_fn rfl (pi_en B.enumerate (pv_name 2)) (pg_tp (n := 2) rfl (pwg_cons (pg_nm 3 sc_after_in.nd (by first | exact Or.inl rfl | exact Or.inr rfl)) (pwg_cons (pg_nm 4 sc_after_in.nd (by first | exact Or.inl rfl | exact Or.inr rfl)) (pwg_nil))) (len_name (len_name (len_nil)))) (pws_cons (pws_if (pwt_notin (u65 hr) (pw_var 4) (pv_of (pw_cd C_may_in hg hr pass_fn (pwa_cons (pw_var 0) (pwa_cons (pw_var 1) (pwa_nil)))))) (pws_one (pws_ret (pw_tup (pwa_cons (pw_var 1) (pwa_cons (pw_var 3) (pwa_nil)))))) (pws_nil)) (pws_one (pws_set 1 (pw_cd C_turned_in hg hr pass_fn (pwa_cons (pw_var 1) (pwa_cons (pw_var 4) (pwa_nil)))) sc_after_in.nd)))) (pws_one (pws_ret (pw_tup (pwa_cons (pw_var 1) (pwa_cons (pw_non) (pwa_nil))))))
theorem g_after_in {P : Program} {w : World} {K : PySem.W.Frag} {mg : Str → Option Value} {base : Heap} {fa : Addr} {fd : FuncData} (B : FreeB mg) (C_may_in : CalD P w K mg base 1 "may_in" ["points", "arrows"] (spF mg fs_may_in)) (C_turned_in : CalD P w K mg base 1 "turned_in" ["arrows", "point"] (spF mg fs_turned_in)) (F : FunD K "after_in" "after_in" (defArgs st_after_in) (defBody st_after_in) (defScope st_after_in) [] [] fa fd) : FnG P w K mg base 2 fa fd ["points", "arrows", "turns"] (spF mg fs_after_in) :=
  fn_pure F sc_after_in (fun ds Q ex h => by obtain ⟨_, _, _, rfl, _⟩ := h; rfl) (fun cdv A outer s H E hg hr => d_after_in B C_may_in C_turned_in hg hr) p_after_in
theorem b_after_in {K : PySem.W.Frag} {fa : Addr} {fd : FuncData} (F : FunD K "after_in" "after_in" (defArgs st_after_in) (defBody st_after_in) (defScope st_after_in) [] [] fa fd) : Binds K fd ["points", "arrows", "turns"] [] := F.bindsN fun _ _ _ _ _ _ us hl => match us, hl with | [_, _, _], _ => rfl
theorem c_after_in {P : Program} {w : World} {K : PySem.W.Frag} {mg : Str → Option Value} {base : Heap} {fa : Addr} {fd : FuncData} (B : FreeB mg) (C_may_in : CalD P w K mg base 1 "may_in" ["points", "arrows"] (spF mg fs_may_in)) (C_turned_in : CalD P w K mg base 1 "turned_in" ["arrows", "point"] (spF mg fs_turned_in)) (F : FunD K "after_in" "after_in" (defArgs st_after_in) (defBody st_after_in) (defScope st_after_in) [] [] fa fd) (m : mg "after_in" = some (.ref fa)) : CalD P w K mg base 2 "after_in" ["points", "arrows", "turns"] (spF mg fs_after_in) := ⟨fa, fd, g_after_in B C_may_in C_turned_in F, m, F.kp, b_after_in F⟩
abbrev st_after_turns : Stmt := top 28
theorem sc_after_turns : FnScope ["points", "arrows", "turns", "told", "wrong"] ["points", "arrows", "turns"] (defScope st_after_turns) := ⟨rfl, rfl, rfl, by decide +kernel, rfl, by decide +kernel, by decide +kernel⟩
theorem d_after_turns {P : Program} {w : World} {K : PySem.W.Frag} {mg : Str → Option Value} {base : Heap} {f : Addr} {cdv : Value} {A : Around} {outer : List Env} {s : Shared} {H : Hp} {E : XK} (B : FreeB mg) (C_check_both : CalD P w K mg base 5 "check_both" ["points", "arrows"] (spF mg fs_check_both)) (C_check_turns : CalD P w K mg base 2 "check_turns" ["turns", "points"] (spF mg fs_check_turns)) (C_after_in : CalD P w K mg base 2 "after_in" ["points", "arrows", "turns"] (spF mg fs_after_in)) (C_in_order : CalD P w K mg base 1 "in_order" ["arrows"] (spF mg fs_in_order)) (hg : (A.deeper (envOfC "after_turns" (defScope st_after_turns) s.heap.objs.size f cdv)).guards = some []) (hr : Room 5 (A.deeper (envOfC "after_turns" (defScope st_after_turns) s.heap.objs.size f cdv))) :
    PWSs (bX P w K mg base ["points", "arrows", "turns", "told", "wrong"] "after_turns" (defScope st_after_turns) f cdv A outer s H E) E (defBody st_after_turns) w_after_turns :=
  pws_cons (pws_expr (pw_cd C_check_both hg hr pass_fn (pwa_cons (pw_var 0) (pwa_cons (pw_var 1) (pwa_nil))))) (pws_cons (pws_expr (pw_cd C_check_turns hg hr pass_fn (pwa_cons (pw_var 2) (pwa_cons (pw_var 0) (pwa_nil))))) (pws_cons (pws_asg (pw_cd C_after_in hg hr pass_fn (pwa_cons (pw_var 0) (pwa_cons (pw_var 1) (pwa_cons (pw_var 2) (pwa_nil))))) (pg_tp (n := 2) rfl (pwg_cons (pg_nm 3 sc_after_turns.nd (by first | exact Or.inl rfl | exact Or.inr rfl)) (pwg_cons (pg_nm 4 sc_after_turns.nd (by first | exact Or.inl rfl | exact Or.inr rfl)) (pwg_nil))) (len_name (len_name (len_nil))))) (pws_cons (pws_if (pwt_cmp o_notN (pw_var 4) (pw_non)) (pws_one (pws_never)) (pws_nil)) (pws_one (pws_ret (pw_cd C_in_order hg hr pass_fn (pwa_cons (pw_var 3) (pwa_nil))))))))
theorem g_after_turns {P : Program} {w : World} {K : PySem.W.Frag} {mg : Str → Option Value} {base : Heap} {fa : Addr} {fd : FuncData} (B : FreeB mg) (C_check_both : CalD P w K mg base 5 "check_both" ["points", "arrows"] (spF mg fs_check_both)) (C_check_turns : CalD P w K mg base 2 "check_turns" ["turns", "points"] (spF mg fs_check_turns)) (C_after_in : CalD P w K mg base 2 "after_in" ["points", "arrows", "turns"] (spF mg fs_after_in)) (C_in_order : CalD P w K mg base 1 "in_order" ["arrows"] (spF mg fs_in_order)) (F : FunD K "after_turns" "after_turns" (defArgs st_after_turns) (defBody st_after_turns) (defScope st_after_turns) [] [] fa fd) : FnG P w K mg base 6 fa fd ["points", "arrows", "turns"] (spF mg fs_after_turns) :=
  fn_pure F sc_after_turns (fun ds Q ex h => by obtain ⟨_, _, _, rfl, _⟩ := h; rfl) (fun cdv A outer s H E hg hr => d_after_turns B C_check_both C_check_turns C_after_in C_in_order hg hr) p_after_turns
theorem b_after_turns {K : PySem.W.Frag} {fa : Addr} {fd : FuncData} (F : FunD K "after_turns" "after_turns" (defArgs st_after_turns) (defBody st_after_turns) (defScope st_after_turns) [] [] fa fd) : Binds K fd ["points", "arrows", "turns"] [] := F.bindsN fun _ _ _ _ _ _ us hl => match us, hl with | [_, _, _], _ => rfl
theorem c_after_turns {P : Program} {w : World} {K : PySem.W.Frag} {mg : Str → Option Value} {base : Heap} {fa : Addr} {fd : FuncData} (B : FreeB mg) (C_check_both : CalD P w K mg base 5 "check_both" ["points", "arrows"] (spF mg fs_check_both)) (C_check_turns : CalD P w K mg base 2 "check_turns" ["turns", "points"] (spF mg fs_check_turns)) (C_after_in : CalD P w K mg base 2 "after_in" ["points", "arrows", "turns"] (spF mg fs_after_in)) (C_in_order : CalD P w K mg base 1 "in_order" ["arrows"] (spF mg fs_in_order)) (F : FunD K "after_turns" "after_turns" (defArgs st_after_turns) (defBody st_after_turns) (defScope st_after_turns) [] [] fa fd) (m : mg "after_turns" = some (.ref fa)) : CalD P w K mg base 6 "after_turns" ["points", "arrows", "turns"] (spF mg fs_after_turns) := ⟨fa, fd, g_after_turns B C_check_both C_check_turns C_after_in C_in_order F, m, F.kp, b_after_turns F⟩
abbrev st__law_played : Stmt := top 41
theorem sc__law_played : FnScope ["_law_draws_here", "_law_size", "_law_sides_here", "_law_most", "_law_told", "_law_step", "_law_free"] ["_law_draws_here", "_law_size", "_law_sides_here", "_law_most"] (defScope st__law_played) := ⟨rfl, rfl, rfl, by decide +kernel, rfl, by decide +kernel, by decide +kernel⟩
theorem d__law_played {P : Program} {w : World} {K : PySem.W.Frag} {mg : Str → Option Value} {base : Heap} {f : Addr} {cdv : Value} {A : Around} {outer : List Env} {s : Shared} {H : Hp} {E : XK} (B : FreeB mg) (C__law_next : CalD P w K mg base 1 "_law_next" ["_law_draws_here"] (spM fs__law_next)) (C__law_may : CalD P w K mg base 1 "_law_may" ["_law_size", "_law_sides_here"] (spF mg fs__law_may)) (C__law_turned : CalD P w K mg base 1 "_law_turned" ["_law_sides_here", "_law_spot"] (spF mg fs__law_turned)) (hg : (A.deeper (envOfC "_law_played" (defScope st__law_played) s.heap.objs.size f cdv)).guards = some []) (hr : Room 1 (A.deeper (envOfC "_law_played" (defScope st__law_played) s.heap.objs.size f cdv))) :
    PWSs (bX P w K mg base ["_law_draws_here", "_law_size", "_law_sides_here", "_law_most", "_law_told", "_law_step", "_law_free"] "_law_played" (defScope st__law_played) f cdv A outer s H E) E (defBody st__law_played) w__law_played :=
  pws_cons (pws_setO 4 (pn_lst (pwa_nil)) sc__law_played.nd) (pws_cons (pws_for own_fn rfl (pi_rng1 B.range (pw_bin o_mod (pw_t1 o_int B.int rfl (pv_of (pw_cm 0 C__law_next hg hr pass_fn (pwa_nil)))) (pw_bin o_add (pw_var 3) (pw_int)))) (pg_nm 5 sc__law_played.nd (by first | exact Or.inl rfl | exact Or.inr rfl)) (pws_cons (pws_set 6 (pw_cd C__law_may hg hr pass_fn (pwa_cons (pw_var 1) (pwa_cons (pw_var 2) (pwa_nil)))) sc__law_played.nd) (pws_one (pws_if (pwt_cmp (o_ne (u64 hr)) (pw_var 6) (pw_lst (pwa_nil))) (pws_cons (pws_expr (pw_app 4 (pw_ix (u1 hr) (pv_name 6) (pw_bin o_mod (pw_t1 o_int B.int rfl (pv_of (pw_cm 0 C__law_next hg hr pass_fn (pwa_nil)))) (pw_b1 o_len B.len rfl (pv_name 6)))))) (pws_one (pws_set 2 (pw_cd C__law_turned hg hr pass_fn (pwa_cons (pw_var 2) (pwa_cons (pw_ix (u1 hr) (pv_name 4) (pw_neg (pw_int))) (pwa_nil)))) sc__law_played.nd))) (pws_nil))))) (pws_one (pws_ret (pw_tup (pwa_cons (pw_var 4) (pwa_cons (pw_var 2) (pwa_nil)))))))
theorem g__law_played {P : Program} {w : World} {K : PySem.W.Frag} {mg : Str → Option Value} {base : Heap} {fa : Addr} {fd : FuncData} (B : FreeB mg) (C__law_next : CalD P w K mg base 1 "_law_next" ["_law_draws_here"] (spM fs__law_next)) (C__law_may : CalD P w K mg base 1 "_law_may" ["_law_size", "_law_sides_here"] (spF mg fs__law_may)) (C__law_turned : CalD P w K mg base 1 "_law_turned" ["_law_sides_here", "_law_spot"] (spF mg fs__law_turned)) (F : FunD K "_law_played" "_law_played" (defArgs st__law_played) (defBody st__law_played) (defScope st__law_played) [] [] fa fd) : FnG P w K mg base 2 fa fd ["_law_draws_here", "_law_size", "_law_sides_here", "_law_most"] (spM fs__law_played) :=
  fn_pureM F sc__law_played (fun os ds Q h => by obtain ⟨_, _, _, _, rfl, _⟩ := h; rfl) (fun cdv A outer s H E hg hr => d__law_played B C__law_next C__law_may C__law_turned hg hr) p__law_played
theorem b__law_played {K : PySem.W.Frag} {fa : Addr} {fd : FuncData} (F : FunD K "_law_played" "_law_played" (defArgs st__law_played) (defBody st__law_played) (defScope st__law_played) [] [] fa fd) : Binds K fd ["_law_draws_here", "_law_size", "_law_sides_here", "_law_most"] [] := F.bindsN fun _ _ _ _ _ _ us hl => match us, hl with | [_, _, _, _], _ => rfl
theorem c__law_played {P : Program} {w : World} {K : PySem.W.Frag} {mg : Str → Option Value} {base : Heap} {fa : Addr} {fd : FuncData} (B : FreeB mg) (C__law_next : CalD P w K mg base 1 "_law_next" ["_law_draws_here"] (spM fs__law_next)) (C__law_may : CalD P w K mg base 1 "_law_may" ["_law_size", "_law_sides_here"] (spF mg fs__law_may)) (C__law_turned : CalD P w K mg base 1 "_law_turned" ["_law_sides_here", "_law_spot"] (spF mg fs__law_turned)) (F : FunD K "_law_played" "_law_played" (defArgs st__law_played) (defBody st__law_played) (defScope st__law_played) [] [] fa fd) (m : mg "_law_played" = some (.ref fa)) : CalD P w K mg base 2 "_law_played" ["_law_draws_here", "_law_size", "_law_sides_here", "_law_most"] (spM fs__law_played) := ⟨fa, fd, g__law_played B C__law_next C__law_may C__law_turned F, m, F.kp, b__law_played F⟩
abbrev st__law_run_right : Stmt := top 43
theorem sc__law_run_right : FnScope ["_law_draws_here", "_law_size", "_law_sides_here", "_law_kept", "_law_still", "_law_steps", "_law_later", "_law_before", "_law_due", "_law_told", "_law_side", "_law_more", "_law_one", "_law_two", "_law_both", "_law_spot", "_law_less"] ["_law_draws_here", "_law_size", "_law_sides_here"] (defScope st__law_run_right) := ⟨rfl, rfl, rfl, by decide +kernel, rfl, by decide +kernel, by decide +kernel⟩
theorem d__law_run_right {P : Program} {w : World} {K : PySem.W.Frag} {mg : Str → Option Value} {base : Heap} {f : Addr} {cdv : Value} {A : Around} {outer : List Env} {s : Shared} {H : Hp} {E : XK} (B : FreeB mg) (K_after_turns_turns_arrows_points : CalK P w K mg base 6 "after_turns" ["points", "arrows", "turns"] (spF mg fs_after_turns) ["turns", "arrows", "points"] [2, 1, 0]) (C_after_turns : CalD P w K mg base 6 "after_turns" ["points", "arrows", "turns"] (spF mg fs_after_turns)) (C_barred : CalD P w K mg base 6 "barred" ["points", "arrows"] (spF mg fs_barred)) (C__law_barred : CalD P w K mg base 2 "_law_barred" ["_law_size", "_law_sides_here"] (spF mg fs__law_barred)) (C__law_in_order : CalD P w K mg base 1 "_law_in_order" ["_law_sides_here"] (spF mg fs__law_in_order)) (C__law_played : CalD P w K mg base 2 "_law_played" ["_law_draws_here", "_law_size", "_law_sides_here", "_law_most"] (spM fs__law_played)) (hg : (A.deeper (envOfC "_law_run_right" (defScope st__law_run_right) s.heap.objs.size f cdv)).guards = some []) (hr : Room 6 (A.deeper (envOfC "_law_run_right" (defScope st__law_run_right) s.heap.objs.size f cdv))) :
    PWSs (bX P w K mg base ["_law_draws_here", "_law_size", "_law_sides_here", "_law_kept", "_law_still", "_law_steps", "_law_later", "_law_before", "_law_due", "_law_told", "_law_side", "_law_more", "_law_one", "_law_two", "_law_both", "_law_spot", "_law_less"] "_law_run_right" (defScope st__law_run_right) f cdv A outer s H E) E (defBody st__law_run_right) w__law_run_right :=
  pws_cons (pws_set 3 (pw_b1 (o_repr hg (u64 hr)) B.repr rfl (pv_name 2)) sc__law_run_right.nd) (pws_cons (pws_set 4 (pw_cd C_barred hg hr pass_fn (pwa_cons (pw_var 1) (pwa_cons (pw_var 2) (pwa_nil)))) sc__law_run_right.nd) (pws_cons (pws_asg (pw_cm 0 C__law_played hg hr pass_fn (pwa_cons (pw_var 1) (pwa_cons (pw_var 2) (pwa_cons (pw_int) (pwa_nil))))) (pg_tp (n := 2) rfl (pwg_cons (pg_nm 5 sc__law_run_right.nd (by first | exact Or.inl rfl | exact Or.inr rfl)) (pwg_cons (pg_nm 6 sc__law_run_right.nd (by first | exact Or.inl rfl | exact Or.inr rfl)) (pwg_nil))) (len_name (len_name (len_nil))))) (pws_cons (pws_set 7 (pw_b1 (o_repr hg (u64 hr)) B.repr rfl (pv_name 5)) sc__law_run_right.nd) (pws_cons (pws_set 8 (pw_cd C__law_in_order hg hr pass_fn (pwa_cons (pw_var 6) (pwa_nil))) sc__law_run_right.nd) (pws_blk (pwb_cons (pws_set 9 (pw_lst (pwa_cons (pw_cd C_after_turns hg hr pass_fn (pwa_cons (pw_var 1) (pwa_cons (pw_var 2) (pwa_cons (pw_var 5) (pwa_nil))))) (pwa_cons (pw_ck K_after_turns_turns_arrows_points hg hr pass_fn (pwk_cons (pw_var 5) (pwk_cons (pw_var 2) (pwk_cons (pw_var 1) (pwk_nil))))) (pwa_nil)))) sc__law_run_right.nd) (pwb_cons (pws_if (pwt_of (pww_or (pwt_cmp (o_ne (u64 hr)) (pw_b1 (o_repr hg (u64 hr)) B.repr rfl (pv_name 9)) (pw_b1 (o_repr hg (u64 hr)) B.repr rfl (pv_of (pw_lst (pwa_cons (pw_var 8) (pwa_cons (pw_var 8) (pwa_nil))))))) (pww_or1 (pwt_cmp (o_ne (u64 hr)) (pw_b1 (o_repr hg (u64 hr)) B.repr rfl (pv_of (pw_lst (pwa_cons (pw_var 2) (pwa_cons (pw_var 5) (pwa_nil)))))) (pw_bin o_add (pw_bin o_add (pw_bin o_add (pw_bin o_add (pw_str) (pw_var 3)) (pw_str)) (pw_var 7)) (pw_str)))))) (pws_one (pws_ret (pw_bl))) (pws_nil)) (pwb_sp (pwj_sp2 9 0 10 own_fn rfl sc__law_run_right.nd (pwj_end (pws_cons (pws_if (pwt_of (pww_or (pwt_cmp (o_ne (u64 hr)) (pw_b1 (o_repr hg (u64 hr)) B.repr rfl (pv_of (pw_cd C_after_turns hg hr pass_fn (pwa_cons (pw_var 1) (pwa_cons (pw_var 2) (pwa_cons (pw_var 5) (pwa_nil))))))) (pw_b1 (o_repr hg (u64 hr)) B.repr rfl (pv_name 8))) (pww_or1 (pwt_cmp (o_ne (u64 hr)) (pw_lc (own := [("_law_spot", 15)]) rfl sc__law_run_right.nd (blkOk_by (by kernel_rfl)) (pi_lst (pv_name 5)) (fun _ _ _ _ _ => pg_nm 15 sc__law_run_right.nd (by first | exact Or.inl rfl | exact Or.inr rfl)) (fun _ _ _ _ _ => pwts_one (pwt_in (u65 hr) (pw_var 15) (pv_name 4))) (fun _ _ _ _ _ => pw_var 15) (by decide)) (pw_lst (pwa_nil)))))) (pws_one (pws_ret (pw_bl))) (pws_nil)) (pws_cons (pws_set 11 (pw_cd C_barred hg hr pass_fn (pwa_cons (pw_var 1) (pwa_cons (pw_var 8) (pwa_nil)))) sc__law_run_right.nd) (pws_cons (pws_if (pwt_of (pww_or (pwt_cmp (o_ne (u64 hr)) (pw_var 11) (pw_cd C__law_barred hg hr pass_fn (pwa_cons (pw_var 1) (pwa_cons (pw_var 8) (pwa_nil))))) (pww_or1 (pwt_cmp (o_ne (u64 hr)) (pw_lc (own := [("_law_spot", 15)]) rfl sc__law_run_right.nd (blkOk_by (by kernel_rfl)) (pi_lst (pv_name 4)) (fun _ _ _ _ _ => pg_nm 15 sc__law_run_right.nd (by first | exact Or.inl rfl | exact Or.inr rfl)) (fun _ _ _ _ _ => pwts_one (pwt_notin (u65 hr) (pw_var 15) (pv_name 11))) (fun _ _ _ _ _ => pw_var 15) (by decide)) (pw_lst (pwa_nil)))))) (pws_one (pws_ret (pw_bl))) (pws_nil)) (pws_cons (pws_for own_fn rfl (pi_lst (pv_name 2)) (pg_tp (n := 2) rfl (pwg_cons (pg_nm 12 sc__law_run_right.nd (by first | exact Or.inl rfl | exact Or.inr rfl)) (pwg_cons (pg_nm 13 sc__law_run_right.nd (by first | exact Or.inl rfl | exact Or.inr rfl)) (pwg_nil))) (len_name (len_name (len_nil)))) (pws_cons (pws_setLc 14 (own := [("_law_spot", 15)]) rfl sc__law_run_right.nd (blkOk_by (by kernel_rfl)) (pi_lst (pv_name 5)) (fun _ _ _ _ _ => pg_nm 15 sc__law_run_right.nd (by first | exact Or.inl rfl | exact Or.inr rfl)) (fun _ _ _ _ _ => pwts_one (pwt_of (pww_or (pwt_cmp (o_eq (u64 hr)) (pw_var 15) (pw_var 12)) (pww_or1 (pwt_cmp (o_eq (u64 hr)) (pw_var 15) (pw_var 13)))))) (fun _ _ _ _ _ => pw_var 15) (by decide) rfl) (pws_one (pws_if (pwt_cmp (o_ne (u64 hr)) (pw_lc (own := [("_law_less", 16), ("_law_more", 11)]) rfl sc__law_run_right.nd (blkOk_by (by kernel_rfl)) (pi_zp B.zip (pw_var 14) (pw_sl (pv_name 14) (pwo_some (pw_int)) (pwo_none))) (fun _ _ _ _ _ => pg_tp (n := 2) rfl (pwg_cons (pg_nm 16 sc__law_run_right.nd (by first | exact Or.inl rfl | exact Or.inr rfl)) (pwg_cons (pg_nm 11 sc__law_run_right.nd (by first | exact Or.inl rfl | exact Or.inr rfl)) (pwg_nil))) (len_name (len_name (len_nil)))) (fun _ _ _ _ _ => pwts_one (pwt_cmp (o_eq (u64 hr)) (pw_var 16) (pw_var 11))) (fun _ _ _ _ _ => pw_int) (by decide)) (pw_lst (pwa_nil))) (pws_one (pws_ret (pw_bl))) (pws_nil))))) (pws_one (pws_ret (pw_cmp (o_eq (u64 hr)) (pw_b1 (o_repr hg (u64 hr)) B.repr rfl (pv_of (pw_cd C_after_turns hg hr pass_fn (pwa_cons (pw_var 1) (pwa_cons (pw_var 2) (pwa_cons (pw_lst (pwa_nil)) (pwa_nil))))))) (pw_b1 (o_repr hg (u64 hr)) B.repr rfl (pv_of (pw_cd C__law_in_order hg hr pass_fn (pwa_cons (pw_var 2) (pwa_nil))))))))))))))))))))))
theorem g__law_run_right {P : Program} {w : World} {K : PySem.W.Frag} {mg : Str → Option Value} {base : Heap} {fa : Addr} {fd : FuncData} (B : FreeB mg) (K_after_turns_turns_arrows_points : CalK P w K mg base 6 "after_turns" ["points", "arrows", "turns"] (spF mg fs_after_turns) ["turns", "arrows", "points"] [2, 1, 0]) (C_after_turns : CalD P w K mg base 6 "after_turns" ["points", "arrows", "turns"] (spF mg fs_after_turns)) (C_barred : CalD P w K mg base 6 "barred" ["points", "arrows"] (spF mg fs_barred)) (C__law_barred : CalD P w K mg base 2 "_law_barred" ["_law_size", "_law_sides_here"] (spF mg fs__law_barred)) (C__law_in_order : CalD P w K mg base 1 "_law_in_order" ["_law_sides_here"] (spF mg fs__law_in_order)) (C__law_played : CalD P w K mg base 2 "_law_played" ["_law_draws_here", "_law_size", "_law_sides_here", "_law_most"] (spM fs__law_played)) (F : FunD K "_law_run_right" "_law_run_right" (defArgs st__law_run_right) (defBody st__law_run_right) (defScope st__law_run_right) [] [] fa fd) : FnG P w K mg base 7 fa fd ["_law_draws_here", "_law_size", "_law_sides_here"] (spM fs__law_run_right) :=
  fn_pureM F sc__law_run_right (fun os ds Q h => by obtain ⟨_, _, _, rfl, _⟩ := h; rfl) (fun cdv A outer s H E hg hr => d__law_run_right B K_after_turns_turns_arrows_points C_after_turns C_barred C__law_barred C__law_in_order C__law_played hg hr) p__law_run_right
theorem b__law_run_right {K : PySem.W.Frag} {fa : Addr} {fd : FuncData} (F : FunD K "_law_run_right" "_law_run_right" (defArgs st__law_run_right) (defBody st__law_run_right) (defScope st__law_run_right) [] [] fa fd) : Binds K fd ["_law_draws_here", "_law_size", "_law_sides_here"] [] := F.bindsN fun _ _ _ _ _ _ us hl => match us, hl with | [_, _, _], _ => rfl
theorem c__law_run_right {P : Program} {w : World} {K : PySem.W.Frag} {mg : Str → Option Value} {base : Heap} {fa : Addr} {fd : FuncData} (B : FreeB mg) (K_after_turns_turns_arrows_points : CalK P w K mg base 6 "after_turns" ["points", "arrows", "turns"] (spF mg fs_after_turns) ["turns", "arrows", "points"] [2, 1, 0]) (C_after_turns : CalD P w K mg base 6 "after_turns" ["points", "arrows", "turns"] (spF mg fs_after_turns)) (C_barred : CalD P w K mg base 6 "barred" ["points", "arrows"] (spF mg fs_barred)) (C__law_barred : CalD P w K mg base 2 "_law_barred" ["_law_size", "_law_sides_here"] (spF mg fs__law_barred)) (C__law_in_order : CalD P w K mg base 1 "_law_in_order" ["_law_sides_here"] (spF mg fs__law_in_order)) (C__law_played : CalD P w K mg base 2 "_law_played" ["_law_draws_here", "_law_size", "_law_sides_here", "_law_most"] (spM fs__law_played)) (F : FunD K "_law_run_right" "_law_run_right" (defArgs st__law_run_right) (defBody st__law_run_right) (defScope st__law_run_right) [] [] fa fd) (m : mg "_law_run_right" = some (.ref fa)) : CalD P w K mg base 7 "_law_run_right" ["_law_draws_here", "_law_size", "_law_sides_here"] (spM fs__law_run_right) := ⟨fa, fd, g__law_run_right B K_after_turns_turns_arrows_points C_after_turns C_barred C__law_barred C__law_in_order C__law_played F, m, F.kp, b__law_run_right F⟩
abbrev st_law : Stmt := top 44
theorem sc_law : FnScope ["_law_script", "_law_draws_here", "_law_three", "_law_ring", "_law_most", "_law_size", "_law_sides_here", "_law_cell"] ["_law_script"] (defScope st_law) := ⟨rfl, rfl, rfl, by decide +kernel, rfl, by decide +kernel, by decide +kernel⟩
theorem d_law {P : Program} {w : World} {K : PySem.W.Frag} {mg : Str → Option Value} {base : Heap} {f : Addr} {cdv : Value} {A : Around} {outer : List Env} {s : Shared} {H : Hp} {E : XK} (B : FreeB mg) (C__law_draws : CalD P w K mg base 1 "_law_draws" ["_law_cell"] (spF mg fs__law_draws)) (C__law_next : CalD P w K mg base 1 "_law_next" ["_law_draws_here"] (spM fs__law_next)) (C__law_bars : CalD P w K mg base 3 "_law_bars" ["_law_draws_here", "_law_size", "_law_more"] (spM fs__law_bars)) (C__law_sides : CalD P w K mg base 3 "_law_sides" ["_law_draws_here", "_law_size", "_law_bars_here"] (spM fs__law_sides)) (C__law_right : CalD P w K mg base 7 "_law_right" ["_law_draws_here", "_law_size", "_law_sides_here"] (spM fs__law_right)) (C__law_run_right : CalD P w K mg base 7 "_law_run_right" ["_law_draws_here", "_law_size", "_law_sides_here"] (spM fs__law_run_right)) (C_turn : CalD P w K mg base 6 "turn" ["points", "arrows", "point"] (spF mg fs_turn)) (C_may_turn : CalD P w K mg base 6 "may_turn" ["points", "arrows"] (spF mg fs_may_turn)) (C_barred : CalD P w K mg base 6 "barred" ["points", "arrows"] (spF mg fs_barred)) (C_after_turns : CalD P w K mg base 6 "after_turns" ["points", "arrows", "turns"] (spF mg fs_after_turns)) (hg : (A.deeper (envOfC "law" (defScope st_law) s.heap.objs.size f cdv)).guards = some []) (hr : Room 7 (A.deeper (envOfC "law" (defScope st_law) s.heap.objs.size f cdv))) :
    PWSs (bX P w K mg base ["_law_script", "_law_draws_here", "_law_three", "_law_ring", "_law_most", "_law_size", "_law_sides_here", "_law_cell"] "law" (defScope st_law) f cdv A outer s H E) E (defBody st_law) w_law :=
  pws_cons (pws_forNew (own := [("_law_cell", 7)]) 1 own_fn rfl sc_law.nd (blkOk_by (by kernel_rfl)) (pi_lst (pv_of (pw_bin o_add (pw_slScr 0 (pwo_some (pw_int))) (pw_lst (pwa_cons (pw_int) (pwa_nil)))))) (fun _ _ _ _ _ => pg_nm 7 sc_law.nd (by first | exact Or.inl rfl | exact Or.inr rfl)) (fun _ _ _ _ _ => pn_cd C__law_draws hg hr pass0 (pwa_cons (pw_var 7) (pwa_nil))) (by decide) (pws_one (pws_for own_fn rfl (pi_lst (pv_of (pw_lst (pwa_cons (pw_int) (pwa_cons (pw_int) (pwa_nil)))))) (pg_nm 4 sc_law.nd (by first | exact Or.inl rfl | exact Or.inr rfl)) (pws_cons (pws_set 5 (pw_bin o_add (pw_int) (pw_bin o_mod (pw_t1 o_int B.int rfl (pv_of (pw_cm 1 C__law_next hg hr pass_fn (pwa_nil)))) (pw_var 4))) sc_law.nd) (pws_cons (pws_set 6 (pw_cm 1 C__law_sides hg hr pass_fn (pwa_cons (pw_var 5) (pwa_cons (pw_cm 1 C__law_bars hg hr pass_fn (pwa_cons (pw_var 5) (pwa_cons (pw_int) (pwa_nil)))) (pwa_nil)))) sc_law.nd) (pws_one (pws_if (pwt_of (pww_or (pwt_not (pwt_val (pw_cm 1 C__law_right hg hr pass_fn (pwa_cons (pw_var 5) (pwa_cons (pw_var 6) (pwa_nil)))))) (pww_or1 (pwt_not (pwt_val (pw_cm 1 C__law_run_right hg hr pass_fn (pwa_cons (pw_var 5) (pwa_cons (pw_var 6) (pwa_nil))))))))) (pws_one (pws_ret (pw_bl))) (pws_nil)))))))) (pws_cons (pws_set 2 (pw_lst (pwa_cons (pw_lst (pwa_cons (pw_int) (pwa_cons (pw_int) (pwa_nil)))) (pwa_cons (pw_lst (pwa_cons (pw_int) (pwa_cons (pw_int) (pwa_nil)))) (pwa_cons (pw_lst (pwa_cons (pw_int) (pwa_cons (pw_int) (pwa_nil)))) (pwa_nil))))) sc_law.nd) (pws_cons (pws_if (pwt_cmp (o_ne (u64 hr)) (pw_lst (pwa_cons (pw_cd C_may_turn hg hr pass_fn (pwa_cons (pw_int) (pwa_cons (pw_var 2) (pwa_nil)))) (pwa_cons (pw_cd C_turn hg hr pass_fn (pwa_cons (pw_int) (pwa_cons (pw_var 2) (pwa_cons (pw_int) (pwa_nil))))) (pwa_nil)))) (pw_lst (pwa_cons (pw_lst (pwa_cons (pw_int) (pwa_nil))) (pwa_cons (pw_lst (pwa_cons (pw_lst (pwa_cons (pw_int) (pwa_cons (pw_int) (pwa_nil)))) (pwa_cons (pw_lst (pwa_cons (pw_int) (pwa_cons (pw_int) (pwa_nil)))) (pwa_cons (pw_lst (pwa_cons (pw_int) (pwa_cons (pw_int) (pwa_nil)))) (pwa_nil))))) (pwa_nil))))) (pws_one (pws_ret (pw_bl))) (pws_nil)) (pws_cons (pws_if (pwt_cmp (o_ne (u64 hr)) (pw_cd C_barred hg hr pass_fn (pwa_cons (pw_int) (pwa_cons (pw_lst (pwa_cons (pw_lst (pwa_cons (pw_int) (pwa_cons (pw_int) (pwa_nil)))) (pwa_cons (pw_lst (pwa_cons (pw_int) (pwa_cons (pw_int) (pwa_nil)))) (pwa_cons (pw_lst (pwa_cons (pw_int) (pwa_cons (pw_int) (pwa_nil)))) (pwa_nil))))) (pwa_nil)))) (pw_lst (pwa_cons (pw_int) (pwa_cons (pw_int) (pwa_cons (pw_int) (pwa_nil)))))) (pws_one (pws_ret (pw_bl))) (pws_nil)) (pws_cons (pws_if (pwt_cmp (o_ne (u64 hr)) (pw_lst (pwa_cons (pw_cd C_may_turn hg hr pass_fn (pwa_cons (pw_int) (pwa_cons (pw_lst (pwa_nil)) (pwa_nil)))) (pwa_cons (pw_cd C_turn hg hr pass_fn (pwa_cons (pw_int) (pwa_cons (pw_lst (pwa_nil)) (pwa_cons (pw_int) (pwa_nil))))) (pwa_cons (pw_cd C_after_turns hg hr pass_fn (pwa_cons (pw_int) (pwa_cons (pw_lst (pwa_nil)) (pwa_cons (pw_bin o_mul (pw_lst (pwa_cons (pw_int) (pwa_nil))) (pw_int)) (pwa_nil))))) (pwa_cons (pw_cd C_barred hg hr pass_fn (pwa_cons (pw_int) (pwa_cons (pw_lst (pwa_nil)) (pwa_nil)))) (pwa_nil)))))) (pw_lst (pwa_cons (pw_lst (pwa_cons (pw_int) (pwa_nil))) (pwa_cons (pw_lst (pwa_nil)) (pwa_cons (pw_lst (pwa_nil)) (pwa_cons (pw_lst (pwa_nil)) (pwa_nil))))))) (pws_one (pws_ret (pw_bl))) (pws_nil)) (pws_cons (pws_set 3 (pw_lst (pwa_cons (pw_lst (pwa_cons (pw_int) (pwa_cons (pw_int) (pwa_nil)))) (pwa_cons (pw_lst (pwa_cons (pw_int) (pwa_cons (pw_int) (pwa_nil)))) (pwa_cons (pw_lst (pwa_cons (pw_int) (pwa_cons (pw_int) (pwa_nil)))) (pwa_cons (pw_lst (pwa_cons (pw_int) (pwa_cons (pw_int) (pwa_nil)))) (pwa_cons (pw_lst (pwa_cons (pw_int) (pwa_cons (pw_int) (pwa_nil)))) (pwa_cons (pw_lst (pwa_cons (pw_int) (pwa_cons (pw_int) (pwa_nil)))) (pwa_cons (pw_lst (pwa_cons (pw_int) (pwa_cons (pw_int) (pwa_nil)))) (pwa_nil))))))))) sc_law.nd) (pws_cons (pws_if (pwt_cmp (o_ne (u64 hr)) (pw_lst (pwa_cons (pw_cd C_barred hg hr pass_fn (pwa_cons (pw_int) (pwa_cons (pw_var 3) (pwa_nil)))) (pwa_cons (pw_cd C_may_turn hg hr pass_fn (pwa_cons (pw_int) (pwa_cons (pw_var 3) (pwa_nil)))) (pwa_nil)))) (pw_lst (pwa_cons (pw_lst (pwa_cons (pw_int) (pwa_cons (pw_int) (pwa_cons (pw_int) (pwa_cons (pw_int) (pwa_cons (pw_int) (pwa_nil))))))) (pwa_cons (pw_lst (pwa_cons (pw_int) (pwa_cons (pw_int) (pwa_nil)))) (pwa_nil))))) (pws_one (pws_ret (pw_bl))) (pws_nil)) (pws_one (pws_ret (pw_cmp (o_eq (u64 hr)) (pw_cd C_after_turns hg hr pass_fn (pwa_cons (pw_int) (pwa_cons (pw_var 2) (pwa_cons (pw_lst (pwa_cons (pw_int) (pwa_cons (pw_int) (pwa_cons (pw_int) (pwa_nil))))) (pwa_nil))))) (pw_var 2))))))))))
theorem fn_main {P : Program} {w : World} {K : PySem.W.Frag} {mg : Str → Option Value} {base : Heap} {fa : Addr} {fd : FuncData} (B : FreeB mg) (C__law_draws : CalD P w K mg base 1 "_law_draws" ["_law_cell"] (spF mg fs__law_draws)) (C__law_next : CalD P w K mg base 1 "_law_next" ["_law_draws_here"] (spM fs__law_next)) (C__law_bars : CalD P w K mg base 3 "_law_bars" ["_law_draws_here", "_law_size", "_law_more"] (spM fs__law_bars)) (C__law_sides : CalD P w K mg base 3 "_law_sides" ["_law_draws_here", "_law_size", "_law_bars_here"] (spM fs__law_sides)) (C__law_right : CalD P w K mg base 7 "_law_right" ["_law_draws_here", "_law_size", "_law_sides_here"] (spM fs__law_right)) (C__law_run_right : CalD P w K mg base 7 "_law_run_right" ["_law_draws_here", "_law_size", "_law_sides_here"] (spM fs__law_run_right)) (C_turn : CalD P w K mg base 6 "turn" ["points", "arrows", "point"] (spF mg fs_turn)) (C_may_turn : CalD P w K mg base 6 "may_turn" ["points", "arrows"] (spF mg fs_may_turn)) (C_barred : CalD P w K mg base 6 "barred" ["points", "arrows"] (spF mg fs_barred)) (C_after_turns : CalD P w K mg base 6 "after_turns" ["points", "arrows", "turns"] (spF mg fs_after_turns)) (F : FunD K "law" "law" (defArgs st_law) (defBody st_law) (defScope st_law) [] [] fa fd) : FnG P w K mg base 8 fa fd ["_law_script"] (spLw K 63) :=
  fn_law F sc_law (fun cdv A outer s H E hg hr => d_law B C__law_draws C__law_next C__law_bars C__law_sides C__law_right C__law_run_right C_turn C_may_turn C_barred C_after_turns hg hr) p_law
theorem k_barred_arrows_points {P : Program} {w : World} {K : PySem.W.Frag} {mg : Str → Option Value} {base : Heap} {fa : Addr} {fd : FuncData} (F : FunD K "barred" "barred" (defArgs st_barred) (defBody st_barred) (defScope st_barred) [] [] fa fd) (m : mg "barred" = some (.ref fa)) (Gf : FnG P w K mg base 6 fa fd ["points", "arrows"] (spF mg fs_barred)) : CalK P w K mg base 6 "barred" ["points", "arrows"] (spF mg fs_barred) ["arrows", "points"] [1, 0] :=
  ⟨fa, fd, Gf, m, F.kp, kbndN F fun _ _ _ _ _ _ ws hl => match ws, hl with | [_, _], _ => rfl⟩
theorem k_may_turn_arrows_points {P : Program} {w : World} {K : PySem.W.Frag} {mg : Str → Option Value} {base : Heap} {fa : Addr} {fd : FuncData} (F : FunD K "may_turn" "may_turn" (defArgs st_may_turn) (defBody st_may_turn) (defScope st_may_turn) [] [] fa fd) (m : mg "may_turn" = some (.ref fa)) (Gf : FnG P w K mg base 6 fa fd ["points", "arrows"] (spF mg fs_may_turn)) : CalK P w K mg base 6 "may_turn" ["points", "arrows"] (spF mg fs_may_turn) ["arrows", "points"] [1, 0] :=
  ⟨fa, fd, Gf, m, F.kp, kbndN F fun _ _ _ _ _ _ ws hl => match ws, hl with | [_, _], _ => rfl⟩
theorem k_turn_point_arrows_points {P : Program} {w : World} {K : PySem.W.Frag} {mg : Str → Option Value} {base : Heap} {fa : Addr} {fd : FuncData} (F : FunD K "turn" "turn" (defArgs st_turn) (defBody st_turn) (defScope st_turn) [] [] fa fd) (m : mg "turn" = some (.ref fa)) (Gf : FnG P w K mg base 6 fa fd ["points", "arrows", "point"] (spF mg fs_turn)) : CalK P w K mg base 6 "turn" ["points", "arrows", "point"] (spF mg fs_turn) ["point", "arrows", "points"] [2, 1, 0] :=
  ⟨fa, fd, Gf, m, F.kp, kbndN F fun _ _ _ _ _ _ ws hl => match ws, hl with | [_, _, _], _ => rfl⟩
theorem k_after_turns_turns_arrows_points {P : Program} {w : World} {K : PySem.W.Frag} {mg : Str → Option Value} {base : Heap} {fa : Addr} {fd : FuncData} (F : FunD K "after_turns" "after_turns" (defArgs st_after_turns) (defBody st_after_turns) (defScope st_after_turns) [] [] fa fd) (m : mg "after_turns" = some (.ref fa)) (Gf : FnG P w K mg base 6 fa fd ["points", "arrows", "turns"] (spF mg fs_after_turns)) : CalK P w K mg base 6 "after_turns" ["points", "arrows", "turns"] (spF mg fs_after_turns) ["turns", "arrows", "points"] [2, 1, 0] :=
  ⟨fa, fd, Gf, m, F.kp, kbndN F fun _ _ _ _ _ _ ws hl => match ws, hl with | [_, _, _], _ => rfl⟩
def dd__law_draws : He.DefD := ⟨("_law_draws", none), "_law_draws", "_law_draws", defArgs st__law_draws, defBody st__law_draws, defScope st__law_draws, [], []⟩
def dd__law_next : He.DefD := ⟨("_law_next", none), "_law_next", "_law_next", defArgs st__law_next, defBody st__law_next, defScope st__law_next, [], []⟩
def dd__law_shuffled : He.DefD := ⟨("_law_shuffled", none), "_law_shuffled", "_law_shuffled", defArgs st__law_shuffled, defBody st__law_shuffled, defScope st__law_shuffled, [], []⟩
def dd__law_bars : He.DefD := ⟨("_law_bars", none), "_law_bars", "_law_bars", defArgs st__law_bars, defBody st__law_bars, defScope st__law_bars, [], []⟩
def dd__law_sides : He.DefD := ⟨("_law_sides", none), "_law_sides", "_law_sides", defArgs st__law_sides, defBody st__law_sides, defScope st__law_sides, [], []⟩
def dd_is_whole : He.DefD := ⟨("is_whole", none), "is_whole", "is_whole", defArgs st_is_whole, defBody st_is_whole, defScope st_is_whole, [], []⟩
def dd_check_number : He.DefD := ⟨("check_number", none), "check_number", "check_number", defArgs st_check_number, defBody st_check_number, defScope st_check_number, [], []⟩
def dd_check_points : He.DefD := ⟨("check_points", none), "check_points", "check_points", defArgs st_check_points, defBody st_check_points, defScope st_check_points, [], []⟩
def dd_is_pair : He.DefD := ⟨("is_pair", none), "is_pair", "is_pair", defArgs st_is_pair, defBody st_is_pair, defScope st_is_pair, [], []⟩
def dd_wrong_pair : He.DefD := ⟨("wrong_pair", none), "wrong_pair", "wrong_pair", defArgs st_wrong_pair, defBody st_wrong_pair, defScope st_wrong_pair, [], []⟩
def dd_reached_in : He.DefD := ⟨("reached_in", none), "reached_in", "reached_in", defArgs st_reached_in, defBody st_reached_in, defScope st_reached_in, [], []⟩
def dd_check_hanging : He.DefD := ⟨("check_hanging", none), "check_hanging", "check_hanging", defArgs st_check_hanging, defBody st_check_hanging, defScope st_check_hanging, [], []⟩
def dd_check_arrows : He.DefD := ⟨("check_arrows", none), "check_arrows", "check_arrows", defArgs st_check_arrows, defBody st_check_arrows, defScope st_check_arrows, [], []⟩
def dd_check_both : He.DefD := ⟨("check_both", none), "check_both", "check_both", defArgs st_check_both, defBody st_check_both, defScope st_check_both, [], []⟩
def dd_barred_in : He.DefD := ⟨("barred_in", none), "barred_in", "barred_in", defArgs st_barred_in, defBody st_barred_in, defScope st_barred_in, [], []⟩
def dd_barred : He.DefD := ⟨("barred", none), "barred", "barred", defArgs st_barred, defBody st_barred, defScope st_barred, [], []⟩
def dd_may_in : He.DefD := ⟨("may_in", none), "may_in", "may_in", defArgs st_may_in, defBody st_may_in, defScope st_may_in, [], []⟩
def dd_may_turn : He.DefD := ⟨("may_turn", none), "may_turn", "may_turn", defArgs st_may_turn, defBody st_may_turn, defScope st_may_turn, [], []⟩
def dd_check_point : He.DefD := ⟨("check_point", none), "check_point", "check_point", defArgs st_check_point, defBody st_check_point, defScope st_check_point, [], []⟩
def dd_turned_in : He.DefD := ⟨("turned_in", none), "turned_in", "turned_in", defArgs st_turned_in, defBody st_turned_in, defScope st_turned_in, [], []⟩
def dd_in_order : He.DefD := ⟨("in_order", none), "in_order", "in_order", defArgs st_in_order, defBody st_in_order, defScope st_in_order, [], []⟩
def dd_turn : He.DefD := ⟨("turn", none), "turn", "turn", defArgs st_turn, defBody st_turn, defScope st_turn, [], []⟩
def dd__law_turned : He.DefD := ⟨("_law_turned", none), "_law_turned", "_law_turned", defArgs st__law_turned, defBody st__law_turned, defScope st__law_turned, [], []⟩
def dd__law_in_order : He.DefD := ⟨("_law_in_order", none), "_law_in_order", "_law_in_order", defArgs st__law_in_order, defBody st__law_in_order, defScope st__law_in_order, [], []⟩
def dd__law_onward : He.DefD := ⟨("_law_onward", none), "_law_onward", "_law_onward", defArgs st__law_onward, defBody st__law_onward, defScope st__law_onward, [], []⟩
def dd__law_barred : He.DefD := ⟨("_law_barred", none), "_law_barred", "_law_barred", defArgs st__law_barred, defBody st__law_barred, defScope st__law_barred, [], []⟩
def dd__law_may : He.DefD := ⟨("_law_may", none), "_law_may", "_law_may", defArgs st__law_may, defBody st__law_may, defScope st__law_may, [], []⟩
def dd__law_right : He.DefD := ⟨("_law_right", none), "_law_right", "_law_right", defArgs st__law_right, defBody st__law_right, defScope st__law_right, [], []⟩
def dd_check_turns : He.DefD := ⟨("check_turns", none), "check_turns", "check_turns", defArgs st_check_turns, defBody st_check_turns, defScope st_check_turns, [], []⟩
def dd_after_in : He.DefD := ⟨("after_in", none), "after_in", "after_in", defArgs st_after_in, defBody st_after_in, defScope st_after_in, [], []⟩
def dd_after_turns : He.DefD := ⟨("after_turns", none), "after_turns", "after_turns", defArgs st_after_turns, defBody st_after_turns, defScope st_after_turns, [], []⟩
def dd__law_played : He.DefD := ⟨("_law_played", none), "_law_played", "_law_played", defArgs st__law_played, defBody st__law_played, defScope st__law_played, [], []⟩
def dd__law_run_right : He.DefD := ⟨("_law_run_right", none), "_law_run_right", "_law_run_right", defArgs st__law_run_right, defBody st__law_run_right, defScope st__law_run_right, [], []⟩
def dd_law : He.DefD := ⟨("law", none), "law", "law", defArgs st_law, defBody st_law, defScope st_law, [], []⟩
def fn : List He.DefD := dd__law_draws :: dd__law_next :: dd__law_shuffled :: dd__law_bars :: dd__law_sides :: dd_is_whole :: dd_check_number :: dd_check_points :: dd_is_pair :: dd_wrong_pair :: dd_reached_in :: dd_check_hanging :: dd_check_arrows :: dd_check_both :: dd_barred_in :: dd_barred :: dd_may_in :: dd_may_turn :: dd_check_point :: dd_turned_in :: dd_in_order :: dd_turn :: dd__law_turned :: dd__law_in_order :: dd__law_onward :: dd__law_barred :: dd__law_may :: dd__law_right :: dd_check_turns :: dd_after_in :: dd_after_turns :: dd__law_played :: dd__law_run_right :: dd_law :: []
def fa : List He.Fa := He.Fa.glo "_law_draws" :: He.Fa.glo "_law_next" :: He.Fa.glo "_law_shuffled" :: He.Fa.glo "_law_bars" :: He.Fa.glo "_law_sides" :: He.Fa.glo "is_whole" :: He.Fa.glo "check_number" :: He.Fa.glo "check_points" :: He.Fa.glo "is_pair" :: He.Fa.glo "wrong_pair" :: He.Fa.glo "reached_in" :: He.Fa.glo "check_hanging" :: He.Fa.glo "check_arrows" :: He.Fa.glo "check_both" :: He.Fa.glo "barred_in" :: He.Fa.glo "barred" :: He.Fa.glo "may_in" :: He.Fa.glo "may_turn" :: He.Fa.glo "check_point" :: He.Fa.glo "turned_in" :: He.Fa.glo "in_order" :: He.Fa.glo "turn" :: He.Fa.glo "_law_turned" :: He.Fa.glo "_law_in_order" :: He.Fa.glo "_law_onward" :: He.Fa.glo "_law_barred" :: He.Fa.glo "_law_may" :: He.Fa.glo "_law_right" :: He.Fa.glo "check_turns" :: He.Fa.glo "after_in" :: He.Fa.glo "after_turns" :: He.Fa.glo "_law_played" :: He.Fa.glo "_law_run_right" :: He.Fa.glo "law" :: He.Fa.free "len" :: He.Fa.free "min" :: He.Fa.free "max" :: He.Fa.free "sum" :: He.Fa.free "all" :: He.Fa.free "any" :: He.Fa.free "int" :: He.Fa.free "bool" :: He.Fa.free "list" :: He.Fa.free "tuple" :: He.Fa.free "range" :: He.Fa.free "enumerate" :: He.Fa.free "zip" :: He.Fa.free "sorted" :: He.Fa.free "set" :: He.Fa.free "repr" :: He.Fa.free "isinstance" :: He.Fa.free "divmod" :: He.Fa.int "MOST_POINTS" 12 :: He.Fa.int "MOST_LINES" 30 :: []
def names : List PySem.Str := "InvalidNumber" :: "InvalidArrows" :: "NotHanging" :: "InvalidTurns" :: "UnknownPoint" :: "NotItsTurn" :: "MOST_POINTS" :: "MOST_LINES" :: "is_whole" :: "check_number" :: "check_points" :: "is_pair" :: "wrong_pair" :: "reached_in" :: "check_hanging" :: "check_arrows" :: "check_both" :: "check_point" :: "check_turns" :: "in_order" :: "may_in" :: "turned_in" :: "barred_in" :: "may_turn" :: "turn" :: "after_in" :: "after_turns" :: "barred" :: "_law_draws" :: "_law_next" :: "_law_shuffled" :: "_law_bars" :: "_law_sides" :: "_law_may" :: "_law_turned" :: "_law_in_order" :: "_law_onward" :: "_law_barred" :: "_law_played" :: "_law_right" :: "_law_run_right" :: []
abbrev R : PySem.W.OpenRow := PySem.W.OpenLaw.row PySem.Challenge.rw_yieldturns_k01_standings
abbrev hk : PySem.W.Hook := He.hookD 4 fa fn
def ob (s : PySem.W.SharedT) : He.AlD := He.obsDG 4 fa fn (HandSHeadRun.getT s)
theorem ob_eq (s : PySem.W.SharedT) : ob s = hk.obs s.abs := He.obsDG_eq (HandSHeadRun.getT_eq s)
set_option maxHeartbeats 0 in
theorem run (w : World) : HandSHeadRun.RunEq R (PySem.W.view R.prog [44]) hk ob 6000 names w := by
  intro os
  kernel_rfl
theorem facts {P : Program} {w : World} {K : PySem.W.Frag} {h : Heap} {mg : Str → Option Value} {f : Addr} (X : K.In h) (G : h.Ns mainGlobals mg) (hfa : mg ("law" : Str) = some (.ref f)) (c : He.SaysD fa fn K) :
    ∃ fd : FuncData, (∀ (s : Shared) (v : Value), BindsTo s fd ⟨[v], []⟩ [("_law_script", v)]) ∧ ∀ base : Heap, K.In base → base.Ns mainGlobals mg → FnG P w K mg base 8 f fd ["_law_script"] (spLw K 63) := by
  have B : FreeB mg := ⟨He.free_ok X G (c.fact 34 (f := .free "len") rfl), He.free_ok X G (c.fact 35 (f := .free "min") rfl), He.free_ok X G (c.fact 36 (f := .free "max") rfl), He.free_ok X G (c.fact 37 (f := .free "sum") rfl), He.free_ok X G (c.fact 38 (f := .free "all") rfl), He.free_ok X G (c.fact 39 (f := .free "any") rfl), He.free_ok X G (c.fact 40 (f := .free "int") rfl), He.free_ok X G (c.fact 41 (f := .free "bool") rfl), He.free_ok X G (c.fact 42 (f := .free "list") rfl), He.free_ok X G (c.fact 43 (f := .free "tuple") rfl), He.free_ok X G (c.fact 44 (f := .free "range") rfl), He.free_ok X G (c.fact 45 (f := .free "enumerate") rfl), He.free_ok X G (c.fact 46 (f := .free "zip") rfl), He.free_ok X G (c.fact 47 (f := .free "sorted") rfl), He.free_ok X G (c.fact 48 (f := .free "set") rfl), He.free_ok X G (c.fact 49 (f := .free "repr") rfl), He.free_ok X G (c.fact 50 (f := .free "isinstance") rfl), He.free_ok X G (c.fact 51 (f := .free "divmod") rfl)⟩
  have g_MOST_POINTS := He.int_ok X G (c.fact 52 (f := .int "MOST_POINTS" 12) rfl)
  have g_MOST_LINES := He.int_ok X G (c.fact 53 (f := .int "MOST_LINES" 30) rfl)
  obtain ⟨fd__law_draws, F__law_draws⟩ := c.def_ 0 (d := dd__law_draws) rfl
  have m__law_draws := He.glo_ok X G (c.fact 0 (f := .glo "_law_draws") rfl)
  obtain ⟨fd__law_next, F__law_next⟩ := c.def_ 1 (d := dd__law_next) rfl
  have m__law_next := He.glo_ok X G (c.fact 1 (f := .glo "_law_next") rfl)
  obtain ⟨fd__law_shuffled, F__law_shuffled⟩ := c.def_ 2 (d := dd__law_shuffled) rfl
  have m__law_shuffled := He.glo_ok X G (c.fact 2 (f := .glo "_law_shuffled") rfl)
  obtain ⟨fd__law_bars, F__law_bars⟩ := c.def_ 3 (d := dd__law_bars) rfl
  have m__law_bars := He.glo_ok X G (c.fact 3 (f := .glo "_law_bars") rfl)
  obtain ⟨fd__law_sides, F__law_sides⟩ := c.def_ 4 (d := dd__law_sides) rfl
  have m__law_sides := He.glo_ok X G (c.fact 4 (f := .glo "_law_sides") rfl)
  obtain ⟨fd_is_whole, F_is_whole⟩ := c.def_ 5 (d := dd_is_whole) rfl
  have m_is_whole := He.glo_ok X G (c.fact 5 (f := .glo "is_whole") rfl)
  obtain ⟨fd_check_number, F_check_number⟩ := c.def_ 6 (d := dd_check_number) rfl
  have m_check_number := He.glo_ok X G (c.fact 6 (f := .glo "check_number") rfl)
  obtain ⟨fd_check_points, F_check_points⟩ := c.def_ 7 (d := dd_check_points) rfl
  have m_check_points := He.glo_ok X G (c.fact 7 (f := .glo "check_points") rfl)
  obtain ⟨fd_is_pair, F_is_pair⟩ := c.def_ 8 (d := dd_is_pair) rfl
  have m_is_pair := He.glo_ok X G (c.fact 8 (f := .glo "is_pair") rfl)
  obtain ⟨fd_wrong_pair, F_wrong_pair⟩ := c.def_ 9 (d := dd_wrong_pair) rfl
  have m_wrong_pair := He.glo_ok X G (c.fact 9 (f := .glo "wrong_pair") rfl)
  obtain ⟨fd_reached_in, F_reached_in⟩ := c.def_ 10 (d := dd_reached_in) rfl
  have m_reached_in := He.glo_ok X G (c.fact 10 (f := .glo "reached_in") rfl)
  obtain ⟨fd_check_hanging, F_check_hanging⟩ := c.def_ 11 (d := dd_check_hanging) rfl
  have m_check_hanging := He.glo_ok X G (c.fact 11 (f := .glo "check_hanging") rfl)
  obtain ⟨fd_check_arrows, F_check_arrows⟩ := c.def_ 12 (d := dd_check_arrows) rfl
  have m_check_arrows := He.glo_ok X G (c.fact 12 (f := .glo "check_arrows") rfl)
  obtain ⟨fd_check_both, F_check_both⟩ := c.def_ 13 (d := dd_check_both) rfl
  have m_check_both := He.glo_ok X G (c.fact 13 (f := .glo "check_both") rfl)
  obtain ⟨fd_barred_in, F_barred_in⟩ := c.def_ 14 (d := dd_barred_in) rfl
  have m_barred_in := He.glo_ok X G (c.fact 14 (f := .glo "barred_in") rfl)
  obtain ⟨fd_barred, F_barred⟩ := c.def_ 15 (d := dd_barred) rfl
  have m_barred := He.glo_ok X G (c.fact 15 (f := .glo "barred") rfl)
  obtain ⟨fd_may_in, F_may_in⟩ := c.def_ 16 (d := dd_may_in) rfl
  have m_may_in := He.glo_ok X G (c.fact 16 (f := .glo "may_in") rfl)
  obtain ⟨fd_may_turn, F_may_turn⟩ := c.def_ 17 (d := dd_may_turn) rfl
  have m_may_turn := He.glo_ok X G (c.fact 17 (f := .glo "may_turn") rfl)
  obtain ⟨fd_check_point, F_check_point⟩ := c.def_ 18 (d := dd_check_point) rfl
  have m_check_point := He.glo_ok X G (c.fact 18 (f := .glo "check_point") rfl)
  obtain ⟨fd_turned_in, F_turned_in⟩ := c.def_ 19 (d := dd_turned_in) rfl
  have m_turned_in := He.glo_ok X G (c.fact 19 (f := .glo "turned_in") rfl)
  obtain ⟨fd_in_order, F_in_order⟩ := c.def_ 20 (d := dd_in_order) rfl
  have m_in_order := He.glo_ok X G (c.fact 20 (f := .glo "in_order") rfl)
  obtain ⟨fd_turn, F_turn⟩ := c.def_ 21 (d := dd_turn) rfl
  have m_turn := He.glo_ok X G (c.fact 21 (f := .glo "turn") rfl)
  obtain ⟨fd__law_turned, F__law_turned⟩ := c.def_ 22 (d := dd__law_turned) rfl
  have m__law_turned := He.glo_ok X G (c.fact 22 (f := .glo "_law_turned") rfl)
  obtain ⟨fd__law_in_order, F__law_in_order⟩ := c.def_ 23 (d := dd__law_in_order) rfl
  have m__law_in_order := He.glo_ok X G (c.fact 23 (f := .glo "_law_in_order") rfl)
  obtain ⟨fd__law_onward, F__law_onward⟩ := c.def_ 24 (d := dd__law_onward) rfl
  have m__law_onward := He.glo_ok X G (c.fact 24 (f := .glo "_law_onward") rfl)
  obtain ⟨fd__law_barred, F__law_barred⟩ := c.def_ 25 (d := dd__law_barred) rfl
  have m__law_barred := He.glo_ok X G (c.fact 25 (f := .glo "_law_barred") rfl)
  obtain ⟨fd__law_may, F__law_may⟩ := c.def_ 26 (d := dd__law_may) rfl
  have m__law_may := He.glo_ok X G (c.fact 26 (f := .glo "_law_may") rfl)
  obtain ⟨fd__law_right, F__law_right⟩ := c.def_ 27 (d := dd__law_right) rfl
  have m__law_right := He.glo_ok X G (c.fact 27 (f := .glo "_law_right") rfl)
  obtain ⟨fd_check_turns, F_check_turns⟩ := c.def_ 28 (d := dd_check_turns) rfl
  have m_check_turns := He.glo_ok X G (c.fact 28 (f := .glo "check_turns") rfl)
  obtain ⟨fd_after_in, F_after_in⟩ := c.def_ 29 (d := dd_after_in) rfl
  have m_after_in := He.glo_ok X G (c.fact 29 (f := .glo "after_in") rfl)
  obtain ⟨fd_after_turns, F_after_turns⟩ := c.def_ 30 (d := dd_after_turns) rfl
  have m_after_turns := He.glo_ok X G (c.fact 30 (f := .glo "after_turns") rfl)
  obtain ⟨fd__law_played, F__law_played⟩ := c.def_ 31 (d := dd__law_played) rfl
  have m__law_played := He.glo_ok X G (c.fact 31 (f := .glo "_law_played") rfl)
  obtain ⟨fd__law_run_right, F__law_run_right⟩ := c.def_ 32 (d := dd__law_run_right) rfl
  have m__law_run_right := He.glo_ok X G (c.fact 32 (f := .glo "_law_run_right") rfl)
  obtain ⟨fd_law, F_law⟩ := c.def_ 33 (d := dd_law) rfl
  have m_law := He.glo_ok X G (c.fact 33 (f := .glo "law") rfl)
  have e := hfa.symm.trans m_law
  cases e
  have bl := FunD.bindsA (ps := ["_law_script"]) F_law fun _ _ _ _ _ _ us hl => match us, hl with | [_], _ => rfl
  refine ⟨fd_law, fun s v => bl s [v] rfl, fun base _ _ => ?_⟩
  have G__law_draws := g__law_draws (P := P) (w := w) (base := base) B  F__law_draws
  have C__law_draws := c__law_draws (P := P) (w := w) (base := base) B  F__law_draws m__law_draws
  have G__law_next := g__law_next (P := P) (w := w) (base := base) B  F__law_next
  have C__law_next := c__law_next (P := P) (w := w) (base := base) B  F__law_next m__law_next
  have G__law_shuffled := g__law_shuffled (P := P) (w := w) (base := base) B C__law_next F__law_shuffled
  have C__law_shuffled := c__law_shuffled (P := P) (w := w) (base := base) B C__law_next F__law_shuffled m__law_shuffled
  have G__law_bars := g__law_bars (P := P) (w := w) (base := base) B C__law_shuffled C__law_next F__law_bars
  have C__law_bars := c__law_bars (P := P) (w := w) (base := base) B C__law_shuffled C__law_next F__law_bars m__law_bars
  have G__law_sides := g__law_sides (P := P) (w := w) (base := base) B C__law_next C__law_shuffled F__law_sides
  have C__law_sides := c__law_sides (P := P) (w := w) (base := base) B C__law_next C__law_shuffled F__law_sides m__law_sides
  have G_is_whole := g_is_whole (P := P) (w := w) (base := base) B  F_is_whole
  have C_is_whole := c_is_whole (P := P) (w := w) (base := base) B  F_is_whole m_is_whole
  have G_check_number := g_check_number (P := P) (w := w) (base := base) B C_is_whole F_check_number
  have C_check_number := c_check_number (P := P) (w := w) (base := base) B C_is_whole F_check_number m_check_number
  have G_check_points := g_check_points (P := P) (w := w) (base := base) B g_MOST_POINTS C_check_number F_check_points
  have C_check_points := c_check_points (P := P) (w := w) (base := base) B g_MOST_POINTS C_check_number F_check_points m_check_points
  have G_is_pair := g_is_pair (P := P) (w := w) (base := base) B C_is_whole F_is_pair
  have C_is_pair := c_is_pair (P := P) (w := w) (base := base) B C_is_whole F_is_pair m_is_pair
  have G_wrong_pair := g_wrong_pair (P := P) (w := w) (base := base) B C_is_pair F_wrong_pair
  have C_wrong_pair := c_wrong_pair (P := P) (w := w) (base := base) B C_is_pair F_wrong_pair m_wrong_pair
  have G_reached_in := g_reached_in (P := P) (w := w) (base := base) B  F_reached_in
  have C_reached_in := c_reached_in (P := P) (w := w) (base := base) B  F_reached_in m_reached_in
  have G_check_hanging := g_check_hanging (P := P) (w := w) (base := base) B C_reached_in F_check_hanging
  have C_check_hanging := c_check_hanging (P := P) (w := w) (base := base) B C_reached_in F_check_hanging m_check_hanging
  have G_check_arrows := g_check_arrows (P := P) (w := w) (base := base) B g_MOST_LINES C_wrong_pair C_check_hanging F_check_arrows
  have C_check_arrows := c_check_arrows (P := P) (w := w) (base := base) B g_MOST_LINES C_wrong_pair C_check_hanging F_check_arrows m_check_arrows
  have G_check_both := g_check_both (P := P) (w := w) (base := base) B C_check_points C_check_arrows F_check_both
  have C_check_both := c_check_both (P := P) (w := w) (base := base) B C_check_points C_check_arrows F_check_both m_check_both
  have G_barred_in := g_barred_in (P := P) (w := w) (base := base) B  F_barred_in
  have C_barred_in := c_barred_in (P := P) (w := w) (base := base) B  F_barred_in m_barred_in
  have G_barred := g_barred (P := P) (w := w) (base := base) B C_check_both C_barred_in F_barred
  have C_barred := c_barred (P := P) (w := w) (base := base) B C_check_both C_barred_in F_barred m_barred
  have K_barred_arrows_points := k_barred_arrows_points (P := P) (w := w) (base := base) F_barred m_barred G_barred
  have G_may_in := g_may_in (P := P) (w := w) (base := base) B  F_may_in
  have C_may_in := c_may_in (P := P) (w := w) (base := base) B  F_may_in m_may_in
  have G_may_turn := g_may_turn (P := P) (w := w) (base := base) B C_check_both C_may_in F_may_turn
  have C_may_turn := c_may_turn (P := P) (w := w) (base := base) B C_check_both C_may_in F_may_turn m_may_turn
  have K_may_turn_arrows_points := k_may_turn_arrows_points (P := P) (w := w) (base := base) F_may_turn m_may_turn G_may_turn
  have G_check_point := g_check_point (P := P) (w := w) (base := base) B C_is_whole F_check_point
  have C_check_point := c_check_point (P := P) (w := w) (base := base) B C_is_whole F_check_point m_check_point
  have G_turned_in := g_turned_in (P := P) (w := w) (base := base) B  F_turned_in
  have C_turned_in := c_turned_in (P := P) (w := w) (base := base) B  F_turned_in m_turned_in
  have G_in_order := g_in_order (P := P) (w := w) (base := base) B  F_in_order
  have C_in_order := c_in_order (P := P) (w := w) (base := base) B  F_in_order m_in_order
  have G_turn := g_turn (P := P) (w := w) (base := base) B C_check_both C_check_point C_may_in C_turned_in C_in_order F_turn
  have C_turn := c_turn (P := P) (w := w) (base := base) B C_check_both C_check_point C_may_in C_turned_in C_in_order F_turn m_turn
  have K_turn_point_arrows_points := k_turn_point_arrows_points (P := P) (w := w) (base := base) F_turn m_turn G_turn
  have G__law_turned := g__law_turned (P := P) (w := w) (base := base) B  F__law_turned
  have C__law_turned := c__law_turned (P := P) (w := w) (base := base) B  F__law_turned m__law_turned
  have G__law_in_order := g__law_in_order (P := P) (w := w) (base := base) B  F__law_in_order
  have C__law_in_order := c__law_in_order (P := P) (w := w) (base := base) B  F__law_in_order m__law_in_order
  have G__law_onward := g__law_onward (P := P) (w := w) (base := base) B  F__law_onward
  have C__law_onward := c__law_onward (P := P) (w := w) (base := base) B  F__law_onward m__law_onward
  have G__law_barred := g__law_barred (P := P) (w := w) (base := base) B C__law_onward F__law_barred
  have C__law_barred := c__law_barred (P := P) (w := w) (base := base) B C__law_onward F__law_barred m__law_barred
  have G__law_may := g__law_may (P := P) (w := w) (base := base) B  F__law_may
  have C__law_may := c__law_may (P := P) (w := w) (base := base) B  F__law_may m__law_may
  have G__law_right := g__law_right (P := P) (w := w) (base := base) B C_barred C_may_turn K_barred_arrows_points K_may_turn_arrows_points C__law_shuffled K_turn_point_arrows_points C_turn C__law_turned C__law_in_order C__law_barred C__law_may F__law_right
  have C__law_right := c__law_right (P := P) (w := w) (base := base) B C_barred C_may_turn K_barred_arrows_points K_may_turn_arrows_points C__law_shuffled K_turn_point_arrows_points C_turn C__law_turned C__law_in_order C__law_barred C__law_may F__law_right m__law_right
  have G_check_turns := g_check_turns (P := P) (w := w) (base := base) B C_is_whole F_check_turns
  have C_check_turns := c_check_turns (P := P) (w := w) (base := base) B C_is_whole F_check_turns m_check_turns
  have G_after_in := g_after_in (P := P) (w := w) (base := base) B C_may_in C_turned_in F_after_in
  have C_after_in := c_after_in (P := P) (w := w) (base := base) B C_may_in C_turned_in F_after_in m_after_in
  have G_after_turns := g_after_turns (P := P) (w := w) (base := base) B C_check_both C_check_turns C_after_in C_in_order F_after_turns
  have C_after_turns := c_after_turns (P := P) (w := w) (base := base) B C_check_both C_check_turns C_after_in C_in_order F_after_turns m_after_turns
  have K_after_turns_turns_arrows_points := k_after_turns_turns_arrows_points (P := P) (w := w) (base := base) F_after_turns m_after_turns G_after_turns
  have G__law_played := g__law_played (P := P) (w := w) (base := base) B C__law_next C__law_may C__law_turned F__law_played
  have C__law_played := c__law_played (P := P) (w := w) (base := base) B C__law_next C__law_may C__law_turned F__law_played m__law_played
  have G__law_run_right := g__law_run_right (P := P) (w := w) (base := base) B K_after_turns_turns_arrows_points C_after_turns C_barred C__law_barred C__law_in_order C__law_played F__law_run_right
  have C__law_run_right := c__law_run_right (P := P) (w := w) (base := base) B K_after_turns_turns_arrows_points C_after_turns C_barred C__law_barred C__law_in_order C__law_played F__law_run_right m__law_run_right
  exact fn_main B C__law_draws C__law_next C__law_bars C__law_sides C__law_right C__law_run_right C_turn C_may_turn C_barred C_after_turns F_law
end G
open PySem PySem.W PySem.Calls PyProof.Rows
theorem PySem.Challenge.cw_yieldturns_k01_standings_holds : PySem.Challenge.rw_yieldturns_k01_standings.Holds := by
  w_on; o_law
  refine HandSHeadRun.head_any (r := OpenLaw.row PySem.Challenge.rw_yieldturns_k01_standings) (q := view (OpenLaw.row PySem.Challenge.rw_yieldturns_k01_standings).prog [44]) (H := G.hk) (ob := G.ob) (M := 6000) (loose := G.names) (d := HandSHeadRun.topDef (OpenLaw.row PySem.Challenge.rw_yieldturns_k01_standings).prog 44) (kwd := []) G.ob_eq
    (by kernel_rfl) (fun s => by kernel_rfl) G.run (by kernel_rfl) (by kernel_rfl) (by kernel_rfl) (by rfl) (by first | assumption | decide +kernel) (by decide +kernel) ⟨rfl, rfl, rfl, rfl, rfl, by decide +kernel⟩ ?hw ?hc
  case hw => w_witness2
  case hc =>
    refine Y.walk_y (l := PySem.Challenge.rw_yieldturns_k01_standings) (n := 63) (k := 8) (x := "_law_script") rfl (by decide) (by kernel_rfl) ⟨rfl, by decide, by decide⟩ ?F
    intro w mg fa h Yp Gp hmg0
    obtain ⟨K, KX, c⟩ := Yp
    have hmg : mg ("law" : PySem.Str) = some (.ref fa) := by
      have e : (HandSHeadRun.topDef (OpenLaw.row PySem.Challenge.rw_yieldturns_k01_standings).prog 44).name = ("law" : PySem.Str) := by kernel_rfl
      rw [← e]
      exact hmg0
    obtain ⟨fd, hb, hF⟩ := G.facts (P := (PySem.Challenge.rw_yieldturns_k01_standings).prog) (w := w) KX Gp hmg c
    exact ⟨K, fd, KX, hb, hF⟩

