import PyProof.Rows.All
import Wide.All
import OpenK.AllK
import Wide.FinOn
import HandS.ForMost
import HandS.Exc
import HandS.WordsExc
import HandS.NoneIn
import HandS.Wide
import HandS.Defaults
import HandS.Deep
import HandS.IsInst
import HandS.WordsDict
import HandS.DictComp
import HandS.Small
import HandS.SetFor
import HandS.Strs
import KE.SortData
import HandS.Conv
import HandS.Zip
import HandS.Style
import HandS.Ends
import HandS.HeadEnd
import HandS.DictTup
import KE.KRevSl
import HandS.Head0
import HandS.Head1
import HandS.Head2
import HandS.HeadHook1
import HandS.HeadHook2
import KE.KStateDown
import PySem.Challenge.RW_yieldturns_k11_whole_all_once
set_option Elab.async false
set_option linter.all false
set_option maxRecDepth 100000
set_option maxHeartbeats 4000000
/-! Y: a pure wp-calculus over data environments, over the hand layer. Part 1: data, what stands for data, states. -/
namespace Y
open PySem L2

/-- plain data -/
inductive D where
  | non | bl (b : Bool) | int (i : Int) | str (x : Str)
  | lst (xs : List D) | tup (xs : List D) | dk (kvs : List (Key × D)) | dt (kvs : List (List Key × D)) | opq (v : V)

mutual
/-- in the ghost heap F (frozen things alone) v stands for the data -/
inductive Rp (F : Hp) : V → D → Prop
  | non : Rp F .non .non
  | bl (b : Bool) : Rp F (.bl b) (.bl b)
  | int (i : Int) : Rp F (.int i) (.int i)
  | str (x : Str) : Rp F (.str x) (.str x)
  | opq (v : V) : Rp F v (.opq v)
  | lst {a : Addr} {vs : List V} {ds : List D} : F a = some (.lst vs) → RpAll F vs ds → Rp F (.ref a) (.lst ds)
  | tup {a : Addr} {vs : List V} {ds : List D} : F a = some (.tup vs) → RpAll F vs ds → Rp F (.ref a) (.tup ds)
  | dk {a : Addr} {vs : List (Key × V)} {ds : List (Key × D)} : F a = some (.dK vs) → RpK F vs ds → Rp F (.ref a) (.dk ds)
  | dt {a : Addr} {vs : List (List Key × V)} {ds : List (List Key × D)} : F a = some (.dT vs) → RpT F vs ds → Rp F (.ref a) (.dt ds)
inductive RpAll (F : Hp) : List V → List D → Prop
  | nil : RpAll F [] []
  | cons {v : V} {d : D} {vs : List V} {ds : List D} : Rp F v d → RpAll F vs ds → RpAll F (v :: vs) (d :: ds)
inductive RpK (F : Hp) : List (Key × V) → List (Key × D) → Prop
  | nil : RpK F [] []
  | cons {k : Key} {v : V} {d : D} {vs : List (Key × V)} {ds : List (Key × D)} : Rp F v d → RpK F vs ds → RpK F ((k, v) :: vs) ((k, d) :: ds)
inductive RpT (F : Hp) : List (List Key × V) → List (List Key × D) → Prop
  | nil : RpT F [] []
  | cons {k : List Key} {v : V} {d : D} {vs : List (List Key × V)} {ds : List (List Key × D)} : Rp F v d → RpT F vs ds → RpT F ((k, v) :: vs) ((k, d) :: ds)
end

/-- the one extends the other -/
def Ex (F F' : Hp) : Prop := ∀ a o, F a = some o → F' a = some o
theorem Ex.refl (F : Hp) : Ex F F := fun _ _ h => h
theorem Ex.trans {F G H : Hp} (a : Ex F G) (b : Ex G H) : Ex F H := fun x o h => b x o (a x o h)
theorem Ex.new {F : Hp} {p : Addr} {o : HO} (h : F p = none) : Ex F (upd F p o) := fun a u e => by
  rw [upd_ne (ne_of_none e h)]
  exact e

mutual
theorem Rp.mono {F F' : Hp} (x : Ex F F') : ∀ {v : V} {d : D}, Rp F v d → Rp F' v d
  | _, _, .non => .non
  | _, _, .bl b => .bl b
  | _, _, .int i => .int i
  | _, _, .str s => .str s
  | _, _, .opq v => .opq v
  | _, _, .lst h r => .lst (x _ _ h) (RpAll.mono x r)
  | _, _, .tup h r => .tup (x _ _ h) (RpAll.mono x r)
  | _, _, .dk h r => .dk (x _ _ h) (RpK.mono x r)
  | _, _, .dt h r => .dt (x _ _ h) (RpT.mono x r)
theorem RpAll.mono {F F' : Hp} (x : Ex F F') : ∀ {vs : List V} {ds : List D}, RpAll F vs ds → RpAll F' vs ds
  | _, _, .nil => .nil
  | _, _, .cons h r => .cons (Rp.mono x h) (RpAll.mono x r)
theorem RpK.mono {F F' : Hp} (x : Ex F F') : ∀ {vs : List (Key × V)} {ds : List (Key × D)}, RpK F vs ds → RpK F' vs ds
  | _, _, .nil => .nil
  | _, _, .cons h r => .cons (Rp.mono x h) (RpK.mono x r)
theorem RpT.mono {F F' : Hp} (x : Ex F F') : ∀ {vs : List (List Key × V)} {ds : List (List Key × D)}, RpT F vs ds → RpT F' vs ds
  | _, _, .nil => .nil
  | _, _, .cons h r => .cons (Rp.mono x h) (RpT.mono x r)
end
theorem RpAll.length {F : Hp} : ∀ {vs : List V} {ds : List D}, RpAll F vs ds → vs.length = ds.length
  | _, _, .nil => rfl
  | _, _, .cons _ r => congrArg (· + 1) (RpAll.length r)
theorem RpAll.append {F : Hp} : ∀ {vs ws : List V} {ds es : List D}, RpAll F vs ds → RpAll F ws es → RpAll F (vs ++ ws) (ds ++ es)
  | _, _, _, _, .nil, h => h
  | _, _, _, _, .cons a r, h => .cons a (RpAll.append r h)
theorem RpAll.get {F : Hp} : ∀ {vs : List V} {ds : List D} {i : Nat} {d : D}, RpAll F vs ds → ds[i]? = some d → ∃ v, vs[i]? = some v ∧ Rp F v d
  | _, _, _, _, .nil, h => by simp at h
  | _, _, 0, _, .cons a _, h => ⟨_, rfl, by simp at h; rw [← h]; exact a⟩
  | _, _, i + 1, d, .cons _ r, h => by
    obtain ⟨v, e, q⟩ := RpAll.get (i := i) (d := d) r (by simpa using h)
    exact ⟨v, by simpa using e, q⟩
theorem RpAll.get' {F : Hp} : ∀ {vs : List V} {ds : List D} {i : Nat} {v : V}, RpAll F vs ds → vs[i]? = some v → ∃ d, ds[i]? = some d ∧ Rp F v d
  | _, _, _, _, .nil, h => by simp at h
  | _, _, 0, _, .cons a _, h => ⟨_, rfl, by simp at h; rw [← h]; exact a⟩
  | _, _, i + 1, d, .cons _ r, h => by
    obtain ⟨v, e, q⟩ := RpAll.get' (i := i) r (by simpa using h)
    exact ⟨v, by simpa using e, q⟩
theorem RpAll.set {F : Hp} {v : V} {d : D} (h : Rp F v d) : ∀ {vs : List V} {ds : List D} (i : Nat), RpAll F vs ds → RpAll F (vs.set i v) (ds.set i d)
  | _, _, _, .nil => .nil
  | _, _, 0, .cons _ r => .cons h r
  | _, _, i + 1, .cons a r => .cons a (RpAll.set h i r)
theorem RpAll.take {F : Hp} : ∀ {vs : List V} {ds : List D} (n : Nat), RpAll F vs ds → RpAll F (vs.take n) (ds.take n)
  | _, _, 0, _ => .nil
  | _, _, _ + 1, .nil => .nil
  | _, _, n + 1, .cons a r => .cons a (RpAll.take n r)
theorem RpAll.drop {F : Hp} : ∀ {vs : List V} {ds : List D} (n : Nat), RpAll F vs ds → RpAll F (vs.drop n) (ds.drop n)
  | _, _, 0, r => r
  | _, _, _ + 1, .nil => .nil
  | _, _, n + 1, .cons _ r => RpAll.drop n r
theorem RpAll.eraseIdx {F : Hp} : ∀ {vs : List V} {ds : List D} (i : Nat), RpAll F vs ds → RpAll F (vs.eraseIdx i) (ds.eraseIdx i)
  | _, _, _, .nil => .nil
  | _, _, 0, .cons _ r => r
  | _, _, i + 1, .cons a r => .cons a (RpAll.eraseIdx i r)
theorem RpAll.rev {F : Hp} : ∀ {vs : List V} {ds : List D}, RpAll F vs ds → RpAll F vs.reverse ds.reverse
  | _, _, .nil => .nil
  | _, _, .cons a r => by
    rw [List.reverse_cons, List.reverse_cons]
    exact (RpAll.rev r).append (.cons a .nil)
theorem RpAll.dropLast {F : Hp} : ∀ {vs : List V} {ds : List D}, RpAll F vs ds → RpAll F vs.dropLast ds.dropLast
  | _, _, .nil => .nil
  | _, _, .cons _ .nil => .nil
  | _, _, .cons a (.cons b r) => .cons a (RpAll.dropLast (.cons b r))
theorem RpAll.ints {F : Hp} : ∀ ns : List Int, RpAll F (ns.map V.int) (ns.map D.int)
  | [] => .nil
  | n :: r => .cons (.int n) (RpAll.ints r)
theorem RpAll.of_ints {F : Hp} : ∀ {ns : List Int} {vs : List V}, RpAll F vs (ns.map D.int) → vs = ns.map V.int
  | [], _, .nil => rfl
  | n :: r, _, .cons h t => by
    cases h
    rw [RpAll.of_ints t]
    rfl
theorem RpAll.of_bls {F : Hp} : ∀ {ns : List Bool} {vs : List V}, RpAll F vs (ns.map D.bl) → vs = ns.map V.bl
  | [], _, .nil => rfl
  | n :: r, _, .cons h t => by
    cases h
    rw [RpAll.of_bls t]
    rfl

/-- what of F is new beside H0 -/
def nw (H0 F : Hp) : Hp := fun a => match H0 a with
  | none => F a
  | some _ => none
theorem nw_ex {H0 F : Hp} : Ex (nw H0 F) F := fun a o h => by
  unfold nw at h
  cases e : H0 a with
  | none => rw [e] at h; exact h
  | some u => rw [e] at h; cases h
theorem nw_mono {H0 F F' : Hp} (x : Ex F F') : Ex (nw H0 F) (nw H0 F') := fun a o h => by
  unfold nw at h ⊢
  cases e : H0 a with
  | none => rw [e] at h; exact x _ _ h
  | some u => rw [e] at h; cases h
theorem nw_at {H0 F : Hp} {a : Addr} (h : H0 a = none) : nw H0 F a = F a := by unfold nw; rw [h]

/-- the frame of a def's run: the written part, the entry's heap, what was frozen there, the object that it may change -/
structure Rl where
  K : PySem.W.Frag
  H0 : Hp
  F0 : Hp
  io : Option Addr
  /-- what else is known of the data that stood before -/
  X : V → D → Prop
abbrev XT : V → D → Prop := fun _ _ => True
/-- a slot's content: data (fresh: all of it made in this run), a thing of one's own that may be changed, the argument that may be changed, any value, the script -/
inductive Sl where
  | dat (d : D) (fr : Bool) | own (o : D) (fr : Bool) | ino (o : D) | raw (v : V) | scr (ns : List Int) | old (d : D)
abbrev En := List (Option Sl)
@[reducible] def gt : En → Nat → Option Sl
  | [], _ => none
  | s :: _, 0 => s
  | _ :: r, n + 1 => gt r n
@[reducible] def st : En → Nat → Option Sl → En
  | [], _, _ => []
  | _ :: r, 0, s => s :: r
  | a :: r, n + 1, s => a :: st r n s
theorem st_length : ∀ (Γ : En) (i : Nat) (s : Option Sl), (st Γ i s).length = Γ.length
  | [], _, _ => rfl
  | _ :: _, 0, _ => rfl
  | _ :: r, n + 1, s => congrArg (· + 1) (st_length r n s)
theorem gt_st_same : ∀ {Γ : En} {i : Nat} {s : Option Sl}, i < Γ.length → gt (st Γ i s) i = s
  | [], _, _, h => absurd h (Nat.not_lt_zero _)
  | _ :: _, 0, _, _ => rfl
  | _ :: r, n + 1, s, h => gt_st_same (Γ := r) (i := n) (s := s) (Nat.lt_of_succ_lt_succ h)
theorem gt_st_ne : ∀ {Γ : En} {i j : Nat} {s : Option Sl}, j ≠ i → gt (st Γ i s) j = gt Γ j
  | [], _, _, _, _ => rfl
  | _ :: _, 0, 0, _, h => absurd rfl h
  | _ :: _, 0, _ + 1, _, _ => rfl
  | _ :: _, _ + 1, 0, _, _ => rfl
  | _ :: r, i + 1, j + 1, s, h => gt_st_ne (Γ := r) (i := i) (j := j) (s := s) (fun e => h (by rw [e]))
theorem gt_lt : ∀ {Γ : En} {i : Nat} {s : Sl}, gt Γ i = some s → i < Γ.length
  | [], _, _, h => by cases h
  | _ :: _, 0, _, _ => Nat.zero_lt_succ _
  | _ :: r, n + 1, s, h => Nat.succ_lt_succ (gt_lt (Γ := r) (i := n) h)

def fF (R : Rl) (F : Hp) : Bool → Hp
  | true => nw R.H0 F
  | false => F
theorem fF_ex {R : Rl} {F : Hp} : ∀ {fr : Bool}, Ex (fF R F fr) F
  | true => nw_ex
  | false => Ex.refl F
theorem fF_mono {R : Rl} {F F' : Hp} (x : Ex F F') : ∀ {fr : Bool}, Ex (fF R F fr) (fF R F' fr)
  | true => nw_mono x
  | false => x
abbrev Rpf (R : Rl) (F : Hp) (fr : Bool) (v : V) (d : D) : Prop := Rp (fF R F fr) v d
/-- flat things hold nothing -/
@[reducible] def flt : D → Bool
  | .non | .bl _ | .int _ | .str _ => true
  | _ => false
theorem flt_rp {F F' : Hp} {v : V} {d : D} (h : flt d = true) (r : Rp F v d) : Rp F' v d := by
  cases r <;> first | (cases h; done) | constructor
theorem Rp.fq {R : Rl} {F : Hp} {fr : Bool} {v : V} {d : D} (r : Rpf R F fr v d) : Rpf R F (fr || flt d) v d := by
  cases h : flt d with
  | true => exact flt_rp h r
  | false =>
    rw [Bool.or_false]
    exact r
/-- the object at p, its children in F -/
def TopH (F H : Hp) (p : Addr) : D → Prop
  | .lst ds => ∃ vs, H p = some (.lst vs) ∧ RpAll F vs ds
  | .dk ds => ∃ vs, H p = some (.dK vs) ∧ RpK F vs ds
  | .dt ds => ∃ vs, H p = some (.dT vs) ∧ RpT F vs ds
  | _ => False
theorem TopH.mono {F F' H H' : Hp} {p : Addr} {o : D} (x : Ex F F') (h : TopH F H p o) (k : ∀ u, H p = some u → H' p = some u) : TopH F' H' p o := by
  cases o with
  | lst ds => obtain ⟨vs, e, r⟩ := h; exact ⟨vs, k _ e, r.mono x⟩
  | dk ds => obtain ⟨vs, e, r⟩ := h; exact ⟨vs, k _ e, r.mono x⟩
  | dt ds => obtain ⟨vs, e, r⟩ := h; exact ⟨vs, k _ e, r.mono x⟩
  | _ => exact h.elim
theorem TopH.there {F H : Hp} {p : Addr} {o : D} (h : TopH F H p o) : ∃ u, H p = some u := by
  cases o with
  | lst ds => obtain ⟨vs, e, r⟩ := h; exact ⟨_, e⟩
  | dk ds => obtain ⟨vs, e, r⟩ := h; exact ⟨_, e⟩
  | dt ds => obtain ⟨vs, e, r⟩ := h; exact ⟨_, e⟩
  | _ => exact h.elim
def SlOk (R : Rl) (F H : Hp) (v : V) : Sl → Prop
  | .dat d fr => Rpf R F fr v d
  | .own o fr => ∃ p, v = .ref p ∧ F p = none ∧ R.H0 p = none ∧ TopH (fF R F fr) H p o
  | .ino o => ∃ p, v = .ref p ∧ R.io = some p ∧ TopH F H p o
  | .raw u => v = u
  | .scr ns => ∃ a, v = .ref a ∧ R.io ≠ some a ∧ SqL R.K R.H0 a (ns.map V.int)
  | .old d => Rp R.F0 v d ∧ R.X v d
def owny : Sl → Bool
  | .own _ _ => true
  | .ino _ => true
  | _ => false
/-- a frozen thing stands: as it is, or (a dict) locked by a walk -/
def RdD (H : Hp) (a : Addr) (u : HO) : Prop := H a = some u ∨ (((∃ k, u = .dK k) ∨ ∃ k, u = .dT k) ∧ ∃ o, H a = some (.frz o u))
theorem RdD.rd {H : Hp} {a : Addr} {u : HO} (h : RdD H a u) : Rd H a u := by
  rcases h with h | ⟨_, h⟩
  · exact .inl h
  · exact .inr h
theorem RdD.ex {H H' : Hp} {a : Addr} {u : HO} (x : Ex H H') (h : RdD H a u) : RdD H' a u := by
  rcases h with h | ⟨q, o, h⟩
  · exact .inl (x _ _ h)
  · exact .inr ⟨q, o, x _ _ h⟩
theorem RdD.there {H : Hp} {a : Addr} {u : HO} (h : RdD H a u) : H a ≠ none := by
  rcases h with h | ⟨q, o, h⟩ <;> rw [h] <;> simp
/-- the state -/
structure Hd (R : Rl) (F H : Hp) (σ : St) (Γ : En) : Prop where
  sub : ∀ a u, F a = some u → RdD H a u
  base : ∀ a o, R.H0 a = some o → R.io ≠ some a → H a = some o
  f0 : ∀ a u, R.F0 a = some u → F a = some u
  new : ∀ a u, F a = some u → R.F0 a = some u ∨ R.H0 a = none
  iof : ∀ a, R.io = some a → F a = none ∧ R.H0 a ≠ none ∧ H a ≠ none
  len : Γ.length = σ.length
  sl : ∀ i s, gt Γ i = some s → ∃ v, σ[i]? = some (some v) ∧ SlOk R F H v s
  sep : ∀ i j s t p, gt Γ i = some s → gt Γ j = some t → owny s = true → owny t = true → σ[i]? = some (some (.ref p)) → σ[j]? = some (some (.ref p)) → i = j

section
variable {R : Rl} {F F' H H' : Hp} {σ : St} {Γ : En} {p : Addr} {o : HO}
theorem Hd.h0 (h : Hd R F H σ Γ) (e : H p = none) : R.H0 p = none ∨ R.io = some p := by
  cases q : R.H0 p with
  | none => exact .inl rfl
  | some u =>
    by_cases z : R.io = some p
    · exact .inr z
    · have := h.base p u q z
      rw [e] at this; cases this
theorem Hd.fNone (h : Hd R F H σ Γ) (e : H p = none) : F p = none := by
  cases q : F p with
  | none => rfl
  | some u => exact absurd e (h.sub p u q).there
/-- things are added, some of them frozen -/
theorem Hd.grow (h : Hd R F H σ Γ) (xH : Ex H H') (xF : Ex F F') (sub : ∀ a u, F' a = some u → RdD H' a u) (new : ∀ a u, F' a = some u → F a = some u ∨ H a = none) : Hd R F' H' σ Γ where
  sub := sub
  base := fun a u e n => xH a u (h.base a u e n)
  f0 := fun a u e => xF a u (h.f0 a u e)
  new := fun a u e => by
    rcases new a u e with z | z
    · exact h.new a u z
    · rcases h.h0 z with q | q
      · exact .inr q
      · exact absurd z (h.iof a q).2.2
  iof := fun a e => by
    obtain ⟨h1, h2, h3⟩ := h.iof a e
    refine ⟨?_, h2, fun z => ?_⟩
    · cases q : F' a with
      | none => rfl
      | some u =>
        rcases new a u q with z | z
        · rw [h1] at z; cases z
        · exact absurd z h3
    · cases q : H a with
      | none => exact h3 q
      | some u =>
        have := xH a u q
        rw [z] at this; cases this
  len := h.len
  sl := fun i s e => by
    obtain ⟨v, e1, q⟩ := h.sl i s e
    refine ⟨v, e1, ?_⟩
    cases s with
    | dat d fr => exact Rp.mono (fF_mono xF) q
    | own o fr =>
      obtain ⟨p, e2, e3, e4, t⟩ := q
      refine ⟨p, e2, ?_, e4, t.mono (fF_mono xF) fun u k => xH _ _ k⟩
      cases q : F' p with
      | none => rfl
      | some u =>
        obtain ⟨u2, e5⟩ := t.there
        rcases new p u q with z | z
        · rw [e3] at z; cases z
        · rw [e5] at z; cases z
    | ino o =>
      obtain ⟨p, e2, e3, t⟩ := q
      exact ⟨p, e2, e3, t.mono xF fun u k => xH _ _ k⟩
    | raw u => exact q
    | scr ns => exact q
    | old d => exact q
  sep := h.sep

theorem Hd.lt (h : Hd R F H σ Γ) {i : Nat} {s : Sl} (e : gt Γ i = some s) : i < σ.length := by
  rw [← h.len]
  exact gt_lt e
/-- a slot gets a thing that is not one's own -/
theorem Hd.set (h : Hd R F H σ Γ) {i : Nat} {v : V} {s : Sl} (ok : SlOk R F H v s) (hs : owny s = false) (hi : i < Γ.length) : Hd R F H (σ.set i (some v)) (st Γ i (some s)) where
  sub := h.sub
  base := h.base
  f0 := h.f0
  new := h.new
  iof := h.iof
  len := by rw [st_length, List.length_set]; exact h.len
  sl := fun j t e => by
    by_cases hj : j = i
    · subst hj
      rw [gt_st_same hi] at e
      cases e
      exact ⟨v, List.getElem?_set_self (by rw [← h.len]; exact hi), ok⟩
    · rw [gt_st_ne hj] at e
      obtain ⟨u, e1, q⟩ := h.sl j t e
      exact ⟨u, by rw [List.getElem?_set_ne (Ne.symm hj)]; exact e1, q⟩
  sep := fun j k s1 s2 p e1 e2 o1 o2 p1 p2 => by
    by_cases hj : j = i
    · subst hj
      rw [gt_st_same hi] at e1
      cases e1
      rw [hs] at o1; cases o1
    · by_cases hk : k = i
      · subst hk
        rw [gt_st_same hi] at e2
        cases e2
        rw [hs] at o2; cases o2
      · rw [gt_st_ne hj] at e1
        rw [gt_st_ne hk] at e2
        rw [List.getElem?_set_ne (Ne.symm hj)] at p1
        rw [List.getElem?_set_ne (Ne.symm hk)] at p2
        exact h.sep j k s1 s2 p e1 e2 o1 o2 p1 p2
/-- a new object of one's own, put into a slot -/
theorem Hd.setOwn (h : Hd R F H σ Γ) {i : Nat} {p : Addr} {o : D} {fr : Bool} (ok : SlOk R F H (.ref p) (.own o fr)) (hp : ∀ j t, gt Γ j = some t → owny t = true → σ[j]? ≠ some (some (.ref p))) (hi : i < Γ.length) :
    Hd R F H (σ.set i (some (.ref p))) (st Γ i (some (.own o fr))) where
  sub := h.sub
  base := h.base
  f0 := h.f0
  new := h.new
  iof := h.iof
  len := by rw [st_length, List.length_set]; exact h.len
  sl := fun j t e => by
    by_cases hj : j = i
    · subst hj
      rw [gt_st_same hi] at e
      cases e
      exact ⟨_, List.getElem?_set_self (by rw [← h.len]; exact hi), ok⟩
    · rw [gt_st_ne hj] at e
      obtain ⟨u, e1, q⟩ := h.sl j t e
      exact ⟨u, by rw [List.getElem?_set_ne (Ne.symm hj)]; exact e1, q⟩
  sep := fun j k s1 s2 q e1 e2 o1 o2 p1 p2 => by
    have hiσ : i < σ.length := by rw [← h.len]; exact hi
    by_cases hj : j = i
    · by_cases hk : k = i
      · rw [hj, hk]
      · exfalso
        rw [gt_st_ne hk] at e2
        rw [List.getElem?_set_ne (Ne.symm hk)] at p2
        rw [hj, List.getElem?_set_self hiσ] at p1
        cases p1
        exact hp k s2 e2 o2 p2
    · by_cases hk : k = i
      · exfalso
        rw [gt_st_ne hj] at e1
        rw [List.getElem?_set_ne (Ne.symm hj)] at p1
        rw [hk, List.getElem?_set_self hiσ] at p2
        cases p2
        exact hp j s1 e1 o1 p1
      · rw [gt_st_ne hj] at e1
        rw [gt_st_ne hk] at e2
        rw [List.getElem?_set_ne (Ne.symm hj)] at p1
        rw [List.getElem?_set_ne (Ne.symm hk)] at p2
        exact h.sep j k s1 s2 q e1 e2 o1 o2 p1 p2
/-- a slot is forgotten -/
theorem Hd.forget (h : Hd R F H σ Γ) (i : Nat) : Hd R F H σ (st Γ i none) where
  sub := h.sub
  base := h.base
  f0 := h.f0
  new := h.new
  iof := h.iof
  len := by rw [st_length]; exact h.len
  sl := fun j t e => by
    by_cases hj : j = i
    · subst hj
      by_cases hl : j < Γ.length
      · rw [gt_st_same hl] at e; cases e
      · have := gt_lt e
        rw [st_length] at this
        exact absurd this hl
    · rw [gt_st_ne hj] at e
      exact h.sl j t e
  sep := fun j k s1 s2 q e1 e2 o1 o2 p1 p2 => by
    have key : ∀ {j : Nat} {s : Sl}, gt (st Γ i none) j = some s → gt Γ j = some s := fun {j s} e => by
      by_cases hj : j = i
      · subst hj
        by_cases hl : j < Γ.length
        · rw [gt_st_same hl] at e; cases e
        · have := gt_lt e
          rw [st_length] at this
          exact absurd this hl
      · rw [gt_st_ne hj] at e
        exact e
    exact h.sep j k s1 s2 q (key e1) (key e2) o1 o2 p1 p2
theorem Hd.sig (h : Hd R F H σ Γ) {σ' : St} (hl : σ'.length = σ.length) (k : ∀ i s v, gt Γ i = some s → σ[i]? = some (some v) → σ'[i]? = some (some v)) : Hd R F H σ' Γ where
  sub := h.sub
  base := h.base
  f0 := h.f0
  new := h.new
  iof := h.iof
  len := h.len.trans hl.symm
  sl := fun j t e => by
    obtain ⟨v, e1, q⟩ := h.sl j t e
    exact ⟨v, k j t v e e1, q⟩
  sep := fun i j s1 s2 q e1 e2 o1 o2 p1 p2 => by
    obtain ⟨v1, z1, _⟩ := h.sl i s1 e1
    obtain ⟨v2, z2, _⟩ := h.sl j s2 e2
    have y1 := k i s1 v1 e1 z1
    have y2 := k j s2 v2 e2 z2
    rw [p1] at y1
    rw [p2] at y2
    cases y1
    cases y2
    exact h.sep i j s1 s2 q e1 e2 o1 o2 z1 z2
/-- the object of one's own in slot i is changed (or the argument that may be changed) -/
theorem Hd.mut (h : Hd R F H σ Γ) {i : Nat} {p : Addr} {u : HO} {s t : Sl} (hs : gt Γ i = some s) (os : owny s = true) (hσ : σ[i]? = some (some (.ref p))) (ok : SlOk R F (upd H p u) (.ref p) t) (ot : owny t = true)
    (hF : F p = none) (hb : R.H0 p = none ∨ R.io = some p) : Hd R F (upd H p u) σ (st Γ i (some t)) where
  sub := fun a w e => by
    have ne : a ≠ p := fun z => by rw [z, hF] at e; cases e
    rcases h.sub a w e with q | ⟨q, o, q2⟩
    · exact .inl (by rw [upd_ne ne]; exact q)
    · exact .inr ⟨q, o, by rw [upd_ne ne]; exact q2⟩
  base := fun a o e n => by
    have ne : a ≠ p := fun z => by
      rcases hb with hb | hb
      · rw [z, hb] at e; cases e
      · exact n (by rw [z]; exact hb)
    rw [upd_ne ne]
    exact h.base a o e n
  f0 := h.f0
  new := h.new
  iof := fun a e => by
    obtain ⟨h1, h2, h3⟩ := h.iof a e
    refine ⟨h1, h2, ?_⟩
    by_cases hp : a = p
    · rw [hp, upd_same]; simp
    · rw [upd_ne hp]; exact h3
  len := by rw [st_length]; exact h.len
  sl := fun j t2 e => by
    by_cases hj : j = i
    · subst hj
      rw [gt_st_same (gt_lt hs)] at e
      cases e
      exact ⟨_, hσ, ok⟩
    · rw [gt_st_ne hj] at e
      obtain ⟨v, e1, q⟩ := h.sl j t2 e
      refine ⟨v, e1, ?_⟩
      cases t2 with
      | dat d fr => exact q
      | raw u => exact q
      | scr ns => exact q
      | old d => exact q
      | own o fr =>
        obtain ⟨p2, e2, e3, e4, tq⟩ := q
        have ne : p2 ≠ p := fun z => hj (h.sep j i _ _ p e hs rfl os (by rw [e1, e2, z]) hσ)
        exact ⟨p2, e2, e3, e4, tq.mono (Ex.refl _) fun u2 k => by rw [upd_ne ne]; exact k⟩
      | ino o =>
        obtain ⟨p2, e2, e3, tq⟩ := q
        have ne : p2 ≠ p := fun z => hj (h.sep j i _ _ p e hs rfl os (by rw [e1, e2, z]) hσ)
        exact ⟨p2, e2, e3, tq.mono (Ex.refl _) fun u2 k => by rw [upd_ne ne]; exact k⟩
  sep := fun j k s1 s2 q e1 e2 o1 o2 p1 p2 => by
    have key : ∀ {j : Nat} {s2 : Sl}, gt (st Γ i (some t)) j = some s2 → owny s2 = true → ∃ s3, gt Γ j = some s3 ∧ owny s3 = true := fun {j s2} e o => by
      by_cases hj : j = i
      · subst hj
        exact ⟨s, hs, os⟩
      · rw [gt_st_ne hj] at e
        exact ⟨s2, e, o⟩
    obtain ⟨t1, a1, b1⟩ := key e1 o1
    obtain ⟨t2, a2, b2⟩ := key e2 o2
    exact h.sep j k t1 t2 q a1 a2 b1 b2 p1 p2
/-- the thing of one's own in slot i is frozen -/
theorem Hd.freeze (h : Hd R F H σ Γ) {i : Nat} {p : Addr} {o : D} {fr : Bool} (hs : gt Γ i = some (.own o fr)) (hσ : σ[i]? = some (some (.ref p))) :
    ∃ F', (Ex F F' ∧ ∀ a u, F' a = some u → F a = some u ∨ a = p) ∧ Rpf R F' fr (.ref p) o ∧ Hd R F' H σ (st Γ i (some (.dat o fr))) := by
  obtain ⟨v, e1, p', e2, e3, e4, tq⟩ := h.sl i _ hs
  rw [hσ] at e1
  cases e1
  cases e2
  have xF : ∀ u, Ex F (upd F p u) := fun u => Ex.new e3
  have main : ∀ u, H p = some u → (Rpf R (upd F p u) fr (.ref p) o) → ∃ F', (Ex F F' ∧ ∀ a u, F' a = some u → F a = some u ∨ a = p) ∧ Rpf R F' fr (.ref p) o ∧ Hd R F' H σ (st Γ i (some (.dat o fr))) := fun u hu r => by
    refine ⟨upd F p u, ⟨xF u, fun a w e => by
      by_cases ha : a = p
      · exact .inr ha
      · rw [upd_ne ha] at e
        exact .inl e⟩, r, ?_⟩
    have hnio : R.io ≠ some p := fun z => (h.iof p z).2.1 e4
    exact {
      sub := fun a w e => by
        by_cases ha : a = p
        · rw [ha, upd_same] at e
          cases e
          rw [ha]
          exact .inl hu
        · rw [upd_ne ha] at e
          exact h.sub a w e
      base := h.base
      f0 := fun a w e => xF u _ _ (h.f0 a w e)
      new := fun a w e => by
        by_cases ha : a = p
        · rw [ha]; exact .inr e4
        · rw [upd_ne ha] at e
          exact h.new a w e
      iof := fun a e => by
        obtain ⟨h1, h2, h3⟩ := h.iof a e
        refine ⟨?_, h2, h3⟩
        rw [upd_ne (fun z => hnio (by rw [← z]; exact e))]
        exact h1
      len := by rw [st_length]; exact h.len
      sl := fun j t2 e => by
        by_cases hj : j = i
        · subst hj
          rw [gt_st_same (gt_lt hs)] at e
          cases e
          exact ⟨_, hσ, r⟩
        · rw [gt_st_ne hj] at e
          obtain ⟨v, e1, q⟩ := h.sl j t2 e
          refine ⟨v, e1, ?_⟩
          cases t2 with
          | dat d fr2 => exact Rp.mono (fF_mono (xF u)) q
          | raw u => exact q
          | scr ns => exact q
          | old d => exact q
          | own o2 fr2 =>
            obtain ⟨p2, e2, e3', e4', tq2⟩ := q
            have ne : p2 ≠ p := fun z => hj (h.sep j i _ _ p e hs rfl rfl (by rw [e1, e2, z]) hσ)
            exact ⟨p2, e2, by rw [upd_ne ne]; exact e3', e4', tq2.mono (fF_mono (xF u)) fun u2 k => k⟩
          | ino o2 =>
            obtain ⟨p2, e2, e3', tq2⟩ := q
            exact ⟨p2, e2, e3', tq2.mono (xF u) fun u2 k => k⟩
      sep := fun j k s1 s2 q e1 e2 o1 o2 p1 p2 => by
        by_cases hj : j = i
        · subst hj
          rw [gt_st_same (gt_lt hs)] at e1
          cases e1
          cases o1
        · by_cases hk : k = i
          · subst hk
            rw [gt_st_same (gt_lt hs)] at e2
            cases e2
            cases o2
          · rw [gt_st_ne hj] at e1
            rw [gt_st_ne hk] at e2
            exact h.sep j k s1 s2 q e1 e2 o1 o2 p1 p2 }
  have at_ : ∀ u, fF R (upd F p u) fr p = some u := fun u => by
    cases fr with
    | true => show nw R.H0 (upd F p u) p = some u; rw [nw_at e4, upd_same]
    | false => exact upd_same
  cases o with
  | lst ds =>
    obtain ⟨vs, e, r⟩ := tq
    exact main _ e (.lst (at_ _) (r.mono (fF_mono (xF _))))
  | dk ds =>
    obtain ⟨vs, e, r⟩ := tq
    exact main _ e (.dk (at_ _) (r.mono (fF_mono (xF _))))
  | dt ds =>
    obtain ⟨vs, e, r⟩ := tq
    exact main _ e (.dt (at_ _) (r.mono (fF_mono (xF _))))
  | _ => exact tq.elim
end

/-- a is the place of a thing of one's own -/
def Ow (σ : L2.St) (Γ : En) (a : Addr) : Prop := ∃ j t, gt Γ j = some t ∧ owny t = true ∧ σ[j]? = some (some (.ref a))
/-- what a step leaves: frozen things, all but things of one's own; no new thing of one's own; what is frozen anew was new, or one's own -/
structure Nx (σ : L2.St) (F H : Hp) (Γ : En) (F' H' : Hp) (Γ' : En) : Prop where
  ex : Ex F F'
  keep : ∀ a o, H a = some o → ¬ Ow σ Γ a → H' a = some o
  ow : ∀ a, Ow σ Γ' a → Ow σ Γ a
  new : ∀ a u, F' a = some u → F a = some u ∨ H a = none ∨ Ow σ Γ a
  stay : ∀ a, H a ≠ none → H' a ≠ none
theorem Nx.refl {σ : L2.St} {F H : Hp} {Γ : En} : Nx σ F H Γ F H Γ := ⟨Ex.refl F, fun _ _ e _ => e, fun _ h => h, fun _ _ e => .inl e, fun _ h => h⟩
theorem Nx.trans {σ : L2.St} {F H F1 H1 F2 H2 : Hp} {Γ Γ1 Γ2 : En} (a : Nx σ F H Γ F1 H1 Γ1) (b : Nx σ F1 H1 Γ1 F2 H2 Γ2) : Nx σ F H Γ F2 H2 Γ2 :=
  ⟨a.ex.trans b.ex, fun x o e n => b.keep x o (a.keep x o e n) fun z => n (a.ow x z), fun x z => a.ow x (b.ow x z), fun x u e => by
    rcases b.new x u e with q | q | q
    · exact a.new x u q
    · cases z : H x with
      | none => exact .inr (.inl rfl)
      | some o =>
        by_cases ho : Ow σ Γ x
        · exact .inr (.inr ho)
        · have z2 := a.keep x o z ho
          rw [q] at z2
          cases z2
    · exact .inr (.inr (a.ow x q)), fun x h => b.stay x (a.stay x h)⟩
theorem Nx.grow {σ : L2.St} {F H F1 H1 : Hp} {Γ : En} (a : Ex F F1) (b : Ex H H1) (new : ∀ a u, F1 a = some u → F a = some u ∨ H a = none) : Nx σ F H Γ F1 H1 Γ := ⟨a, fun x o e _ => b x o e, fun _ h => h, fun x u e => by
  rcases new x u e with q | q
  · exact .inl q
  · exact .inr (.inl q), fun x h z => by
  cases q : H x with
  | none => exact h q
  | some u =>
    have := b x u q
    rw [z] at this; cases this⟩
theorem Ow.of_st {σ : L2.St} {Γ : En} {i : Nat} {s : Option Sl} {a : Addr} (h : Ow σ (st Γ i s) a) (hs : ∀ t, s = some t → owny t = true → Ow σ Γ a ∨ σ[i]? ≠ some (some (.ref a))) : Ow σ Γ a := by
  obtain ⟨j, t, e1, e2, e3⟩ := h
  by_cases hj : j = i
  · subst hj
    by_cases hl : j < Γ.length
    · rw [gt_st_same hl] at e1
      rcases hs t e1 e2 with q | q
      · exact q
      · exact absurd e3 q
    · have := gt_lt e1
      rw [st_length] at this
      exact absurd this hl
  · rw [gt_st_ne hj] at e1
    exact ⟨j, t, e1, e2, e3⟩
/-- a thing of one's own is frozen -/
theorem Nx.froze {σ : L2.St} {F H F1 : Hp} {Γ : En} {i : Nat} {p : Addr} {o : D} {fr : Bool} (hs : gt Γ i = some (.own o fr)) (hσ : σ[i]? = some (some (.ref p))) (a : Ex F F1 ∧ ∀ a u, F1 a = some u → F a = some u ∨ a = p) : Nx σ F H Γ F1 H (st Γ i (some (.dat o fr))) :=
  ⟨a.1, fun _ _ e _ => e, fun x z => z.of_st fun t e1 e2 => (by cases e1; cases e2), fun x u e => by
    rcases a.2 x u e with q | q
    · exact .inl q
    · rw [q]; exact .inr (.inr ⟨i, _, hs, rfl, hσ⟩), fun _ h => h⟩
/-- an object that is neither frozen nor one's own nor the entry's may change -/
theorem Hd.poke {R : Rl} {F H : Hp} {σ : L2.St} {Γ : En} (h : Hd R F H σ Γ) {p : Addr} {u : HO} (hF : F p = none) (ho : ¬ Ow σ Γ p) (h0 : R.H0 p = none) : Hd R F (upd H p u) σ Γ where
  sub := fun a w e => by
    have ne : a ≠ p := fun z => by rw [z, hF] at e; cases e
    rcases h.sub a w e with q | ⟨q, o, q2⟩
    · exact .inl (by rw [upd_ne ne]; exact q)
    · exact .inr ⟨q, o, by rw [upd_ne ne]; exact q2⟩
  base := fun a o e n => by
    have ne : a ≠ p := fun z => by rw [z, h0] at e; cases e
    rw [upd_ne ne]
    exact h.base a o e n
  f0 := h.f0
  new := h.new
  iof := fun a e => by
    obtain ⟨h1, h2, h3⟩ := h.iof a e
    have ne : a ≠ p := fun z => h2 (by rw [z]; exact h0)
    exact ⟨h1, h2, by rw [upd_ne ne]; exact h3⟩
  len := h.len
  sl := fun j t e => by
    obtain ⟨v, e1, q⟩ := h.sl j t e
    refine ⟨v, e1, ?_⟩
    cases t with
    | dat d fr => exact q
    | raw u => exact q
    | scr ns => exact q
    | old d => exact q
    | own o fr =>
      obtain ⟨p2, e2, e3, e4, tq⟩ := q
      have ne : p2 ≠ p := fun z => ho ⟨j, _, e, rfl, by rw [e1, e2, z]⟩
      exact ⟨p2, e2, e3, e4, tq.mono (Ex.refl _) fun u2 k => by rw [upd_ne ne]; exact k⟩
    | ino o =>
      obtain ⟨p2, e2, e3, tq⟩ := q
      have ne : p2 ≠ p := fun z => ho ⟨j, _, e, rfl, by rw [e1, e2, z]⟩
      exact ⟨p2, e2, e3, tq.mono (Ex.refl _) fun u2 k => by rw [upd_ne ne]; exact k⟩
  sep := h.sep
end Y

/-! Y: part 2: the judgements, expressions. -/
namespace Y
open PySem L2

abbrev EX := Str → D → Prop
abbrev WE := EX → En → (D → Bool → En → Prop) → Prop
abbrev WT := EX → En → (Bool → En → Prop) → Prop
abbrev WA := EX → En → (List (D × Bool) → En → Prop) → Prop
/-- the field of an own exception, by its class -/
def fieldOf (c : Str) : Str := if c = "InvalidNumber" then "number" else if c = "InvalidArrows" ∨ c = "InvalidLines" ∨ c = "InvalidTurns" ∨ c = "UnlikeNets" then "index" else "point"
/-- what is wanted of an exception, from what is told of it -/
def Lk (mg : Str → Option Value) (R : Rl) (E : XK) (ex : EX) : Prop :=
  ∀ (c : Str) (C dd : Addr) (v : V) (d : D) (F' H' : Hp), mg c = some (.ref C) → ex c d → (∀ a o, R.H0 a = some o → R.io ≠ some a → H' a = some o) → Ex R.F0 F' → (∀ a u, F' a = some u → RdD H' a u) → Rp F' v d →
    H' dd = some (.xd [(fieldOf c, v)]) → E (.ref C) (some dd) H'
structure Go (X : Cx) (R : Rl) (E : XK) (ex : EX) : Prop where
  K : R.K = X.K
  lk : Lk X.mg R E ex
def EQ (R : Rl) (F H : Hp) (σ : L2.St) (Γ : En) (Q : D → Bool → En → Prop) (Qt : VK) : Prop := ∀ v F' H' Γ' d fr, Hd R F' H' σ Γ' → Nx σ F H Γ F' H' Γ' → Rpf R F' fr v d → Q d fr Γ' → Qt v H'
def TQ (R : Rl) (F H : Hp) (σ : L2.St) (Γ : En) (Q : Bool → En → Prop) (Qt : Bool → Hp → Prop) : Prop := ∀ b F' H' Γ', Hd R F' H' σ Γ' → Nx σ F H Γ F' H' Γ' → Q b Γ' → Qt b H'
inductive RpL (R : Rl) (F : Hp) : List V → List (D × Bool) → Prop
  | nil : RpL R F [] []
  | cons {v : V} {d : D} {fr : Bool} {vs : List V} {ds : List (D × Bool)} : Rpf R F fr v d → RpL R F vs ds → RpL R F (v :: vs) ((d, fr) :: ds)
theorem RpL.mono {R : Rl} {F F' : Hp} (x : Ex F F') : ∀ {vs : List V} {ds : List (D × Bool)}, RpL R F vs ds → RpL R F' vs ds
  | _, _, .nil => .nil
  | _, _, .cons h r => .cons (h.mono (fF_mono x)) (r.mono x)
theorem RpL.all {R : Rl} {F : Hp} : ∀ {vs : List V} {ds : List (D × Bool)}, RpL R F vs ds → RpAll (fF R F (ds.all (·.2))) vs (ds.map (·.1))
  | _, _, .nil => .nil
  | _, _, .cons (d := d) (fr := fr) (ds := ds) h r => by
    have r' := r.all
    have e : (((d, fr) :: ds).all (·.2)) = (fr && ds.all (·.2)) := rfl
    rw [e]
    cases fr with
    | true =>
      rw [Bool.true_and]
      refine .cons ?_ r'
      cases hq : ds.all (·.2) with
      | true => exact h
      | false => exact h.mono nw_ex
    | false =>
      rw [Bool.false_and]
      exact .cons h (r'.mono fF_ex)
theorem RpL.length {R : Rl} {F : Hp} : ∀ {vs : List V} {ds : List (D × Bool)}, RpL R F vs ds → vs.length = ds.length
  | _, _, .nil => rfl
  | _, _, .cons _ r => congrArg (· + 1) r.length
def AQ (R : Rl) (F H : Hp) (σ : L2.St) (Γ : En) (Q : List (D × Bool) → En → Prop) (Qt : List V → Hp → Prop) : Prop := ∀ vs F' H' Γ' ds, Hd R F' H' σ Γ' → Nx σ F H Γ F' H' Γ' → RpL R F' vs ds → Q ds Γ' → Qt vs H'

def SE (X : Cx) (E : XK) (te : TE) (w : WE) : Prop := ∀ (R : Rl) (F H : Hp) (σ : L2.St) (Γ : En) (ex : EX) Q Qt, Go X R E ex → Hd R F H σ Γ → EQ R F H σ Γ Q Qt → w ex Γ Q → te σ H Qt
def ST (X : Cx) (E : XK) (te : TT) (w : WT) : Prop := ∀ (R : Rl) (F H : Hp) (σ : L2.St) (Γ : En) (ex : EX) Q Qt, Go X R E ex → Hd R F H σ Γ → TQ R F H σ Γ Q Qt → w ex Γ Q → te σ H Qt
def SA (X : Cx) (E : XK) (te : TA) (w : WA) : Prop := ∀ (R : Rl) (F H : Hp) (σ : L2.St) (Γ : En) (ex : EX) Q Qt, Go X R E ex → Hd R F H σ Γ → AQ R F H σ Γ Q Qt → w ex Γ Q → te σ H Qt
def PWE (X : Cx) (E : XK) (e : Expr) (w : WE) : Prop := ∃ te : TE, PE X e te ∧ SE X E te w
def PWT (X : Cx) (E : XK) (e : Expr) (w : WT) : Prop := ∃ te : TT, PT X e te ∧ ST X E te w
def PWA (X : Cx) (E : XK) (es : List Expr) (w : WA) : Prop := ∃ te : TA, PA X es te ∧ SA X E te w

section
variable {X : Cx} {E : XK} {e a b c : Expr} {es : List Expr} {pos : Pos} {wa wb wc : WE}

/-! ### names, constants -/
@[reducible] def wVar (i : Nat) : WE := fun _ Γ Q => match gt Γ i with
  | some (.dat d fr) => Q d (fr || flt d) Γ
  | some (.own o fr) => Q o fr (st Γ i (some (.dat o fr)))
  | some (.raw v) => Q (.opq v) false Γ
  | some (.old d) => Q d (flt d) Γ
  | _ => False
theorem pw_var (i : Nat) {x : Str} (hN : X.N[i]? = some x := by rfl) (hv : Vis X.env.scope x := by first | exact Or.inl rfl | exact Or.inr (Or.inl rfl) | exact Or.inr (Or.inr rfl)) (hd : (x == ("__debug__" : Str)) = false := by decide)
    (hcd : (x == ("__classdict__" : Str)) = false := by decide) : PWE X E (.Name x pos) (wVar i) := by
  refine ⟨tVar i, pe_var hN hv hd hcd, fun R F H σ Γ ex Q Qt g h eq w => ?_⟩
  unfold wVar at w
  cases q : gt Γ i with
  | none => rw [q] at w; exact w.elim
  | some s =>
    rw [q] at w
    obtain ⟨v, e1, ok⟩ := h.sl i s q
    cases s with
    | dat d fr => exact ⟨v, e1, eq v F H Γ d _ h Nx.refl (Rp.fq (R := R) (fr := fr) ok) w⟩
    | own o fr =>
      obtain ⟨p, e2, _⟩ := ok
      subst e2
      obtain ⟨F', xF, r, h'⟩ := h.freeze q e1
      exact ⟨_, e1, eq _ F' H _ o fr h' (.froze q e1 xF) r w⟩
    | raw u =>
      have e2 : v = u := ok
      subst e2
      exact ⟨v, e1, eq v F H Γ (.opq v) false h Nx.refl (.opq v) w⟩
    | ino o => exact w.elim
    | scr ns => exact w.elim
    | old d => exact ⟨v, e1, eq v F H Γ d _ h Nx.refl (Rp.fq (R := R) (fr := false) (Rp.mono h.f0 ok.1)) w⟩
@[reducible] def wC (d : D) : WE := fun _ Γ Q => Q d true Γ
def flatD : D → V → Prop
  | .non, .non => True
  | .bl b, .bl c => b = c
  | .int i, .int j => i = j
  | .str x, .str y => x = y
  | _, _ => False
theorem flatD.rp {F : Hp} : ∀ {d : D} {v : V}, flatD d v → Rp F v d
  | .non, .non, _ => .non
  | .bl b, .bl c, h => by cases (show b = c from h); exact .bl b
  | .int b, .int c, h => by cases (show b = c from h); exact .int b
  | .str b, .str c, h => by cases (show b = c from h); exact .str b
theorem pw_c {v : V} {d : D} (h : PE X e (tC v)) (hf : flatD d v) : PWE X E e (wC d) :=
  ⟨tC v, h, fun R F H σ Γ ex Q Qt g h eq w => eq v F H Γ d true h Nx.refl (flatD.rp hf) w⟩
theorem pw_int {i j} : PWE X E (.Constant (.int i) j pos) (wC (.int i)) := pw_c pe_int rfl
theorem pw_bl {b j} : PWE X E (.Constant (.bool b) j pos) (wC (.bl b)) := pw_c pe_bl rfl
theorem pw_non {j} : PWE X E (.Constant .none j pos) (wC .non) := pw_c pe_non trivial
theorem pw_str {x j} : PWE X E (.Constant (.str x) j pos) (wC (.str x)) := pw_c pe_str rfl
/-- a module's whole number -/
theorem pw_gint {x : Str} {i : Int} (hm : ∃ t, X.mg x = some (.int i t)) (hg : Gl X x := by rfl) (hd : (x == ("__debug__" : Str)) = false := by decide) : PWE X E (.Name x pos) (wC (.int i)) := by
  obtain ⟨t, hm⟩ := hm
  exact pw_c (pe_glob (v := .int i) hg hm ⟨t, rfl⟩ hd) rfl

/-! ### operators -/
abbrev K2 := D → Bool → D → Bool → (D → Bool → Prop) → Prop
def KQ (R : Rl) (F H : Hp) (σ : L2.St) (Γ : En) (Q : D → Bool → Prop) (Qt : VK) : Prop := ∀ v F' H' d fr, Hd R F' H' σ Γ → Nx σ F H Γ F' H' Γ → Rpf R F' fr v d → Q d fr → Qt v H'
def OK2 (X : Cx) (r : R2) (k : K2) : Prop := ∀ (R : Rl) (F H : Hp) (σ : L2.St) (Γ : En) x y dx fx dy fy Q Qt, R.K = X.K → Hd R F H σ Γ → Rpf R F fx x dx → Rpf R F fy y dy → KQ R F H σ Γ Q Qt → k dx fx dy fy Q → r x y H Qt
@[reducible] def wOp (k : K2) (wa wb : WE) : WE := fun ex Γ Q => wa ex Γ fun x fx Γ1 => wb ex Γ1 fun y fy Γ2 => k x fx y fy fun z fz => Q z fz Γ2
theorem ok_op {r : R2} {k : K2} (hk : OK2 X r k) {ta tb : TE} (ka : SE X E ta wa)
    (kb : SE X E tb wb) {R : Rl} {F H : Hp} {σ : L2.St} {Γ : En} {ex : EX} {Q Qt}
    (g : Go X R E ex) (h : Hd R F H σ Γ) (eq : EQ R F H σ Γ Q Qt) (w : wOp k wa wb ex Γ Q) : tOp r ta tb σ H Qt :=
  ka R F H σ Γ ex _ _ g h (fun x F1 H1 Γ1 dx fx h1 x1 r1 w1 => kb R F1 H1 σ Γ1 ex _ _ g h1 (fun y F2 H2 Γ2 dy fy h2 x2 r2 w2 =>
    hk R F2 H2 σ Γ2 x y dx fx dy fy _ Qt g.K h2 (r1.mono (fF_mono x2.ex)) r2 (fun v F3 H3 d fr h3 x3 r3 q => eq v F3 H3 Γ2 d fr h3 ((x1.trans x2).trans x3) r3 q) w2) w1) w
theorem pw_bin {op : Operator} {r : R2} {k : K2} (o : OpR X (binaryOp op) r ∧ OK2 X r k) (ha : PWE X E a wa) (hb : PWE X E b wb) : PWE X E (.BinOp a op b pos) (wOp k wa wb) := by
  obtain ⟨ta, pa, ka⟩ := ha
  obtain ⟨tb, pb, kb⟩ := hb
  exact ⟨tOp r ta tb, pe_op o.1 pa pb, fun R F H σ Γ ex Q Qt g h eq w => ok_op o.2 ka kb g h eq w⟩
theorem pw_cmp {op : CmpOp} {r : R2} {k : K2} (o : OpR X (compareOp op) r ∧ OK2 X r k) (ha : PWE X E a wa) (hb : PWE X E b wb) (hm : behindInMarks op b = false := by first | exact nomark _ | rfl) : PWE X E (.Compare a [op] [b] pos) (wOp k wa wb) := by
  obtain ⟨ta, pa, ka⟩ := ha
  obtain ⟨tb, pb, kb⟩ := hb
  exact ⟨tOp r ta tb, pe_cmpR o.1 pa pb hm, fun R F H σ Γ ex Q Qt g h eq w => ok_op o.2 ka kb g h eq w⟩
@[reducible] def wTst (we : WE) : WT := fun ex Γ Q => we ex Γ fun d _ Γ' => match d with
  | .bl b => Q b Γ'
  | _ => False
theorem ok_tst {te : TE} {w : WE} (k : SE X E te w) {R : Rl} {F H : Hp} {σ : L2.St} {Γ : En} {ex : EX} {Q} {Qt : Bool → Hp → Prop}
    (g : Go X R E ex) (h : Hd R F H σ Γ) (eq : TQ R F H σ Γ Q Qt) (hw : wTst w ex Γ Q) : te σ H fun x H' => ∃ c, x = .bl c ∧ Qt c H' :=
  k R F H σ Γ ex _ _ g h (fun v F1 H1 Γ1 d fr h1 x1 r1 q => by
    cases d with
    | bl b =>
      have e : v = .bl b := by
        cases r1
        rfl
      exact ⟨b, e, eq b F1 H1 Γ1 h1 x1 q⟩
    | _ => exact q.elim) hw
theorem pwt_cmp {op : CmpOp} {r : R2} {k : K2} (o : OpR X (compareOp op) r ∧ OK2 X r k) (ha : PWE X E a wa) (hb : PWE X E b wb) (hm : behindInMarks op b = false := by first | exact nomark _ | rfl) : PWT X E (.Compare a [op] [b] pos) (wTst (wOp k wa wb)) := by
  obtain ⟨ta, pa, ka⟩ := ha
  obtain ⟨tb, pb, kb⟩ := hb
  exact ⟨_, pt_cmpR o.1 pa pb hm, fun R F H σ Γ ex Q Qt g h eq w => ok_tst (fun R F H σ Γ ex Q Qt g h eq w => ok_op o.2 ka kb g h eq w) g h eq w⟩
/-- a truth value as a test -/
theorem pwt_val {w : WE} (h : PWE X E e w) (he : ∀ whole, isTrue e X.env whole = (do let v ← whole; standAt e.pos; holding [v] (truthy v)) := by intro _; rfl) : PWT X E e (wTst w) := by
  obtain ⟨te, pe, ke⟩ := h
  exact ⟨_, pt_val pe he, fun R F H σ Γ ex Q Qt g h eq w => ok_tst ke g h eq w⟩
/-- by a truth value; by a value that is one -/
def ifB (b : Bool) (x y : Prop) : Prop := match b with
  | true => x
  | false => y
def ifD (d : D) (x y : Prop) : Prop := match d with
  | .bl true => x
  | .bl false => y
  | _ => False
/-- a < b < c -/
@[reducible] def wChain (k k' : K2) (wa wb wc : WE) : WE := fun ex Γ Q => wa ex Γ fun x fx Γ1 => wb ex Γ1 fun y fy Γ2 => k x fx y fy fun z _ => ifD z (wc ex Γ2 fun u fu Γ3 => k' y fy u fu fun z fz => Q z fz Γ3) (Q (.bl false) true Γ2)
theorem ok_chain {r r' : R2} {k k' : K2} (hk : OK2 X r k) (hk' : OK2 X r' k') {ta tb tc : TE} (ka : SE X E ta wa)
    (kb : SE X E tb wb)
    (kc : SE X E tc wc) {R : Rl} {F H : Hp} {σ : L2.St} {Γ : En} {ex : EX} {Q Qt}
    (g : Go X R E ex) (h : Hd R F H σ Γ) (eq : EQ R F H σ Γ Q Qt) (w : wChain k k' wa wb wc ex Γ Q) : tChain r r' ta tb tc σ H Qt :=
  ka R F H σ Γ ex _ _ g h (fun x F1 H1 Γ1 dx fx h1 x1 r1 w1 => kb R F1 H1 σ Γ1 ex _ _ g h1 (fun y F2 H2 Γ2 dy fy h2 x2 r2 w2 =>
    hk R F2 H2 σ Γ2 x y dx fx dy fy _ _ g.K h2 (r1.mono (fF_mono x2.ex)) r2 (fun v F3 H3 d fr h3 x3 r3 q => by
      cases d with
      | bl t =>
        have e : v = .bl t := by
          cases r3
          rfl
        refine ⟨t, e, ?_⟩
        cases t with
        | true =>
          show (if true = true then _ else _)
          rw [if_pos rfl]
          exact kc R F3 H3 σ Γ2 ex _ _ g h3 (fun u F4 H4 Γ4 du fu h4 x4 r4 w4 => hk' R F4 H4 σ Γ4 y u dy fy du fu _ Qt g.K h4 (r2.mono (fF_mono (x3.trans x4).ex)) r4
            (fun v F5 H5 d fr h5 x5 r5 q => eq v F5 H5 Γ4 d fr h5 ((((x1.trans x2).trans x3).trans x4).trans x5) r5 q) w4) q
        | false =>
          show (if false = true then _ else _)
          rw [if_neg Bool.false_ne_true]
          exact eq _ F3 H3 Γ2 _ true h3 ((x1.trans x2).trans x3) (.bl false) q
      | _ => exact q.elim) w2) w1) w
theorem pw_chain {op op' : CmpOp} {r r' : R2} {k k' : K2} (o : OpR X (compareOp op) r ∧ OK2 X r k) (o' : OpR X (compareOp op') r' ∧ OK2 X r' k') (ha : PWE X E a wa) (hb : PWE X E b wb) (hc : PWE X E c wc)
    (hm : lastMarks [op, op'] [b, c] = false := by with_unfolding_all rfl) : PWE X E (.Compare a [op, op'] [b, c] pos) (wChain k k' wa wb wc) := by
  obtain ⟨ta, pa, ka⟩ := ha
  obtain ⟨tb, pb, kb⟩ := hb
  obtain ⟨tc, pc, kc⟩ := hc
  exact ⟨_, pe_chain o.1 o'.1 pa pb pc hm, fun R F H σ Γ ex Q Qt g h eq w => ok_chain o.2 o'.2 ka kb kc g h eq w⟩
theorem pwt_chain {op op' : CmpOp} {r r' : R2} {k k' : K2} (o : OpR X (compareOp op) r ∧ OK2 X r k) (o' : OpR X (compareOp op') r' ∧ OK2 X r' k') (ha : PWE X E a wa) (hb : PWE X E b wb) (hc : PWE X E c wc)
    (hm : lastMarks [op, op'] [b, c] = false := by with_unfolding_all rfl) : PWT X E (.Compare a [op, op'] [b, c] pos) (wTst (wChain k k' wa wb wc)) := by
  obtain ⟨ta, pa, ka⟩ := ha
  obtain ⟨tb, pb, kb⟩ := hb
  obtain ⟨tc, pc, kc⟩ := hc
  exact ⟨_, pt_chain o.1 o'.1 pa pb pc hm, fun R F H σ Γ ex Q Qt g h eq w => ok_tst (fun R F H σ Γ ex Q Qt g h eq w => ok_chain o.2 o'.2 ka kb kc g h eq w) g h eq w⟩

/-! ### and, or, not, if-else -/
variable {ta tb : WT} {rest : List Expr}
def PWW (X : Cx) (E : XK) (e : Expr) (w : WT) : Prop := ∃ te : TT, PW X e te ∧ ST X E te w
@[reducible] def wAnd (t u : WT) : WT := fun ex Γ Q => t ex Γ fun b Γ1 => ifB b (u ex Γ1 Q) (Q false Γ1)
@[reducible] def wOr (t u : WT) : WT := fun ex Γ Q => t ex Γ fun b Γ1 => ifB b (Q true Γ1) (u ex Γ1 Q)
@[reducible] def wNot (t : WT) : WT := fun ex Γ Q => t ex Γ fun b Γ1 => Q (!b) Γ1
theorem pww_and1 (h : PWT X E a ta) : PWW X E (.BoolOp .And [a] pos) ta := ⟨_, pw_and1 h.choose_spec.1, h.choose_spec.2⟩
theorem pww_or1 (h : PWT X E a ta) : PWW X E (.BoolOp .Or [a] pos) ta := ⟨_, pw_or1 h.choose_spec.1, h.choose_spec.2⟩
theorem pww_and (ha : PWT X E a ta) (hb : PWW X E (.BoolOp .And (b :: rest) pos) tb) : PWW X E (.BoolOp .And (a :: b :: rest) pos) (wAnd ta tb) := by
  obtain ⟨t, pt, kt⟩ := ha
  obtain ⟨u, pu, ku⟩ := hb
  refine ⟨_, pw_and pt pu, fun R F H σ Γ ex Q Qt g h eq w => kt R F H σ Γ ex _ _ g h (fun b F1 H1 Γ1 h1 x1 w1 => ?_) w⟩
  cases b with
  | true =>
    show (if true = true then _ else _)
    rw [if_pos rfl]
    exact ku R F1 H1 σ Γ1 ex _ _ g h1 (fun b F2 H2 Γ2 h2 x2 q => eq b F2 H2 Γ2 h2 (x1.trans x2) q) w1
  | false =>
    show (if false = true then _ else _)
    rw [if_neg Bool.false_ne_true]
    exact eq _ F1 H1 Γ1 h1 x1 w1
theorem pww_or (ha : PWT X E a ta) (hb : PWW X E (.BoolOp .Or (b :: rest) pos) tb) : PWW X E (.BoolOp .Or (a :: b :: rest) pos) (wOr ta tb) := by
  obtain ⟨t, pt, kt⟩ := ha
  obtain ⟨u, pu, ku⟩ := hb
  refine ⟨_, pw_or pt pu, fun R F H σ Γ ex Q Qt g h eq w => kt R F H σ Γ ex _ _ g h (fun b F1 H1 Γ1 h1 x1 w1 => ?_) w⟩
  cases b with
  | false =>
    show (if false = true then _ else _)
    rw [if_neg Bool.false_ne_true]
    exact ku R F1 H1 σ Γ1 ex _ _ g h1 (fun b F2 H2 Γ2 h2 x2 q => eq b F2 H2 Γ2 h2 (x1.trans x2) q) w1
  | true =>
    show (if true = true then _ else _)
    rw [if_pos rfl]
    exact eq _ F1 H1 Γ1 h1 x1 w1
theorem pwt_of {w : WT} (h : PWW X E e w) : PWT X E e w := ⟨_, h.choose_spec.1.pt, h.choose_spec.2⟩
theorem pwt_not (ha : PWT X E a ta) : PWT X E (.UnaryOp .Not a pos) (wNot ta) := by
  obtain ⟨t, pt, kt⟩ := ha
  exact ⟨_, pt_not pt, fun R F H σ Γ ex Q Qt g h eq w => kt R F H σ Γ ex _ _ g h (fun b F1 H1 Γ1 h1 x1 w1 => eq _ F1 H1 Γ1 h1 x1 w1) w⟩
/-- as values -/
@[reducible] def wAndV (wa wb : WE) : WE := fun ex Γ Q => wa ex Γ fun d _ Γ1 => ifD d (wb ex Γ1 Q) (Q (.bl false) true Γ1)
@[reducible] def wOrV (wa wb : WE) : WE := fun ex Γ Q => wa ex Γ fun d _ Γ1 => ifD d (Q (.bl true) true Γ1) (wb ex Γ1 Q)
@[reducible] def wNotV (wa : WE) : WE := fun ex Γ Q => wa ex Γ fun d _ Γ1 => match d with
  | .bl b => Q (.bl (!b)) true Γ1
  | _ => False
theorem pw_one {op} (h : PWE X E a wa) : PWE X E (.BoolOp op [a] pos) wa := ⟨_, pe_one h.choose_spec.1, h.choose_spec.2⟩
theorem rp_bl {F : Hp} {v : V} {b : Bool} (h : Rp F v (.bl b)) : v = .bl b := by cases h; rfl
theorem rp_int {F : Hp} {v : V} {b : Int} (h : Rp F v (.int b)) : v = .int b := by cases h; rfl
theorem rp_str {F : Hp} {v : V} {b : Str} (h : Rp F v (.str b)) : v = .str b := by cases h; rfl
theorem rp_non {F : Hp} {v : V} (h : Rp F v .non) : v = .non := by cases h; rfl
theorem pw_and (ha : PWE X E a wa) (hb : PWE X E (.BoolOp .And (b :: rest) pos) wb) : PWE X E (.BoolOp .And (a :: b :: rest) pos) (wAndV wa wb) := by
  obtain ⟨t, pt, kt⟩ := ha
  obtain ⟨u, pu, ku⟩ := hb
  refine ⟨_, pe_and pt pu, fun R F H σ Γ ex Q Qt g h eq w => kt R F H σ Γ ex _ _ g h (fun v F1 H1 Γ1 d fr h1 x1 r1 w1 => ?_) w⟩
  cases d with
  | bl b =>
    refine ⟨b, rp_bl r1, ?_⟩
    cases b with
    | true =>
      rw [if_pos rfl]
      exact ku R F1 H1 σ Γ1 ex _ _ g h1 (fun v F2 H2 Γ2 d fr h2 x2 r2 q => eq v F2 H2 Γ2 d fr h2 (x1.trans x2) r2 q) w1
    | false =>
      rw [if_neg Bool.false_ne_true]
      exact eq _ F1 H1 Γ1 _ true h1 x1 (.bl false) w1
  | _ => exact w1.elim
theorem pw_or (ha : PWE X E a wa) (hb : PWE X E (.BoolOp .Or (b :: rest) pos) wb) : PWE X E (.BoolOp .Or (a :: b :: rest) pos) (wOrV wa wb) := by
  obtain ⟨t, pt, kt⟩ := ha
  obtain ⟨u, pu, ku⟩ := hb
  refine ⟨_, pe_or pt pu, fun R F H σ Γ ex Q Qt g h eq w => kt R F H σ Γ ex _ _ g h (fun v F1 H1 Γ1 d fr h1 x1 r1 w1 => ?_) w⟩
  cases d with
  | bl b =>
    refine ⟨b, rp_bl r1, ?_⟩
    cases b with
    | false =>
      rw [if_neg Bool.false_ne_true]
      exact ku R F1 H1 σ Γ1 ex _ _ g h1 (fun v F2 H2 Γ2 d fr h2 x2 r2 q => eq v F2 H2 Γ2 d fr h2 (x1.trans x2) r2 q) w1
    | true =>
      rw [if_pos rfl]
      exact eq _ F1 H1 Γ1 _ true h1 x1 (.bl true) w1
  | _ => exact w1.elim
theorem pw_not (ha : PWE X E a wa) : PWE X E (.UnaryOp .Not a pos) (wNotV wa) := by
  obtain ⟨t, pt, kt⟩ := ha
  refine ⟨_, pe_not pt, fun R F H σ Γ ex Q Qt g h eq w => kt R F H σ Γ ex _ _ g h (fun v F1 H1 Γ1 d fr h1 x1 r1 w1 => ?_) w⟩
  cases d with
  | bl b => exact ⟨b, rp_bl r1, eq _ F1 H1 Γ1 _ true h1 x1 (.bl (!b)) w1⟩
  | _ => exact w1.elim
@[reducible] def wIf (t : WT) (wa wb : WE) : WE := fun ex Γ Q => t ex Γ fun b Γ1 => ifB b (wa ex Γ1 Q) (wb ex Γ1 Q)
theorem pw_ifExp (ht : PWT X E c ta) (ha : PWE X E a wa) (hb : PWE X E b wb) : PWE X E (.IfExp c a b pos) (wIf ta wa wb) := by
  obtain ⟨t, pt, kt⟩ := ht
  obtain ⟨u, pu, ku⟩ := ha
  obtain ⟨v, pv, kv⟩ := hb
  refine ⟨_, pe_ifExp pt pu pv, fun R F H σ Γ ex Q Qt g h eq w => kt R F H σ Γ ex _ _ g h (fun b F1 H1 Γ1 h1 x1 w1 => ?_) w⟩
  cases b with
  | true =>
    show (if true = true then _ else _)
    rw [if_pos rfl]
    exact ku R F1 H1 σ Γ1 ex _ _ g h1 (fun v F2 H2 Γ2 d fr h2 x2 r2 q => eq v F2 H2 Γ2 d fr h2 (x1.trans x2) r2 q) w1
  | false =>
    show (if false = true then _ else _)
    rw [if_neg Bool.false_ne_true]
    exact kv R F1 H1 σ Γ1 ex _ _ g h1 (fun v F2 H2 Γ2 d fr h2 x2 r2 q => eq v F2 H2 Γ2 d fr h2 (x1.trans x2) r2 q) w1

/-! ### argument lists, displays -/
@[reducible] def wNil : WA := fun _ Γ Q => Q [] Γ
@[reducible] def wCons (we : WE) (wr : WA) : WA := fun ex Γ Q => we ex Γ fun d fr Γ1 => wr ex Γ1 fun ds Γ2 => Q ((d, fr) :: ds) Γ2
theorem pwa_nil : PWA X E [] wNil := ⟨_, pa_nil, fun R F H σ Γ ex Q Qt g h eq w => eq [] F H Γ [] h Nx.refl .nil w⟩
theorem pwa_cons {wr : WA} (ha : PWE X E e wa) (hr : PWA X E es wr) (hs : starEach (e :: es) X.env = (false, eval e X.env) :: starEach es X.env := by rfl) : PWA X E (e :: es) (wCons wa wr) := by
  obtain ⟨t, pt, kt⟩ := ha
  obtain ⟨u, pu, ku⟩ := hr
  exact ⟨_, pa_cons pt pu hs, fun R F H σ Γ ex Q Qt g h eq w => kt R F H σ Γ ex _ _ g h (fun v F1 H1 Γ1 d fr h1 x1 r1 w1 => ku R F1 H1 σ Γ1 ex _ _ g h1
    (fun vs F2 H2 Γ2 ds h2 x2 r2 q => eq (v :: vs) F2 H2 Γ2 ((d, fr) :: ds) h2 (x1.trans x2) (.cons (r1.mono (fF_mono x2.ex)) r2) q) w1) w⟩
/-- a frozen new thing -/
theorem Hd.newF {R : Rl} {F H : Hp} {σ : L2.St} {Γ : En} (h : Hd R F H σ Γ) {p : Addr} {o : HO} (hp : H p = none) : Hd R (upd F p o) (upd H p o) σ Γ ∧ Nx σ F H Γ (upd F p o) (upd H p o) Γ ∧ ∀ fr, fF R (upd F p o) fr p = some o := by
  have hF := h.fNone hp
  have nwx : ∀ a u, upd F p o a = some u → F a = some u ∨ H a = none := fun a u e => by
    by_cases ha : a = p
    · rw [ha]; exact .inr hp
    · rw [upd_ne ha] at e
      exact .inl e
  refine ⟨h.grow (Ex.new hp) (Ex.new hF) (fun a u e => ?_) nwx, .grow (Ex.new hF) (Ex.new hp) nwx, fun fr => ?_⟩
  · by_cases ha : a = p
    · rw [ha, upd_same] at e
      cases e
      rw [ha]
      exact .inl upd_same
    · rw [upd_ne ha] at e
      exact (h.sub a u e).ex (Ex.new hp)
  · cases fr with
    | false => exact upd_same
    | true =>
      rcases h.h0 hp with q | q
      · show nw R.H0 _ p = _
        rw [nw_at q, upd_same]
      · exact absurd hp (h.iof p q).2.2
@[reducible] def frs' (ds : List (D × Bool)) : Bool := ds.all (·.2)
@[reducible] def wLst (wa : WA) : WE := fun ex Γ Q => wa ex Γ fun ds Γ1 => ds.length ≤ sizeLine ∧ Q (.lst (ds.map (·.1))) (frs' ds) Γ1
@[reducible] def wTup (wa : WA) : WE := fun ex Γ Q => wa ex Γ fun ds Γ1 => ds.length ≤ sizeLine ∧ Q (.tup (ds.map (·.1))) (frs' ds) Γ1
theorem pw_lst {wr : WA} (ha : PWA X E es wr) : PWE X E (.List es pos) (wLst wr) := by
  obtain ⟨t, pt, kt⟩ := ha
  refine ⟨_, pe_lst pt, fun R F H σ Γ ex Q Qt g h eq w => kt R F H σ Γ ex _ _ g h (fun vs F1 H1 Γ1 ds h1 x1 r1 w1 => ?_) w⟩
  refine ⟨by rw [r1.length]; exact w1.1, fun p hp => ?_⟩
  obtain ⟨h2, x2, at_⟩ := h1.newF (o := .lst vs) hp
  exact eq _ _ _ Γ1 _ _ h2 (x1.trans x2) (.lst (at_ _) (r1.all.mono (fF_mono x2.ex))) w1.2
theorem pw_tup {x1} {wr : WA} (ha : PWA X E es wr) : PWE X E (.Tuple es x1 pos) (wTup wr) := by
  obtain ⟨t, pt, kt⟩ := ha
  refine ⟨_, pe_tup pt, fun R F H σ Γ ex Q Qt g h eq w => kt R F H σ Γ ex _ _ g h (fun vs F1 H1 Γ1 ds h1 x1 r1 w1 => ?_) w⟩
  refine ⟨by rw [r1.length]; exact w1.1, fun p hp => ?_⟩
  obtain ⟨h2, x2, at_⟩ := h1.newF (o := .tup vs) hp
  exact eq _ _ _ Γ1 _ _ h2 (x1.trans x2) (.tup (at_ _) (r1.all.mono (fF_mono x2.ex))) w1.2
end
end Y

/-! Y: part 3: operators by their data. -/
namespace Y
open PySem L2

/-! ### data as the model's plain data -/
mutual
def plain : D → Bool
  | .non | .bl _ | .int _ => true
  | .str x => PyData.strOk x
  | .lst xs | .tup xs => plainAll xs
  | .dk _ | .dt _ | .opq _ => false
def plainAll : List D → Bool
  | [] => true
  | x :: xs => plain x && plainAll xs
end
mutual
def pd : D → PyData
  | .non => .none
  | .bl b => .bool b
  | .int i => .int i
  | .str x => .str x
  | .lst xs => .list (pdAll xs)
  | .tup xs => .tuple (pdAll xs)
  | .dk _ | .dt _ | .opq _ => .none
def pdAll : List D → List PyData
  | [] => []
  | x :: xs => pd x :: pdAll xs
end
mutual
def dep : D → Nat
  | .lst xs | .tup xs => depAll xs + 1
  | _ => 0
def depAll : List D → Nat
  | [] => 0
  | x :: xs => max (dep x) (depAll xs)
end
mutual
theorem canLay_pd : ∀ d : D, plain d = true → (pd d).canLay0 = true
  | .non, _ => by unfold pd; rfl
  | .bl b, _ => by unfold pd; rfl
  | .int i, _ => by unfold pd; rfl
  | .str x, h => by
    unfold pd
    unfold plain at h
    unfold PyData.canLay0
    exact h
  | .lst xs, h => by
    unfold pd
    unfold plain at h
    unfold PyData.canLay0
    exact canLay_pdAll xs h
  | .tup xs, h => by
    unfold pd
    unfold plain at h
    unfold PyData.canLay0
    exact canLay_pdAll xs h
  | .dk _, h => by unfold plain at h; cases h
  | .dt _, h => by unfold plain at h; cases h
  | .opq _, h => by unfold plain at h; cases h
theorem canLay_pdAll : ∀ d : List D, plainAll d = true → PyData.canLayAll0 (pdAll d) = true
  | [], _ => by unfold pdAll; unfold PyData.canLayAll0; rfl
  | x :: xs, h => by
    unfold plainAll at h
    obtain ⟨h1, h2⟩ := Bool.and_eq_true_iff.mp h
    unfold pdAll
    unfold PyData.canLayAll0
    rw [canLay_pd x h1, canLay_pdAll xs h2]
    rfl
end
mutual
theorem depth_pd : ∀ d : D, (pd d).depth ≤ dep d
  | .non => by unfold pd; unfold PyData.depth; exact Nat.zero_le _
  | .bl b => by unfold pd; unfold PyData.depth; exact Nat.zero_le _
  | .int i => by unfold pd; unfold PyData.depth; exact Nat.zero_le _
  | .str x => by unfold pd; unfold PyData.depth; exact Nat.zero_le _
  | .lst xs => by
    unfold pd
    unfold PyData.depth
    unfold dep
    exact Nat.succ_le_succ (depth_pdAll xs)
  | .tup xs => by
    unfold pd
    unfold PyData.depth
    unfold dep
    exact Nat.succ_le_succ (depth_pdAll xs)
  | .dk _ => by unfold pd; unfold PyData.depth; exact Nat.zero_le _
  | .dt _ => by unfold pd; unfold PyData.depth; exact Nat.zero_le _
  | .opq _ => by unfold pd; unfold PyData.depth; exact Nat.zero_le _
theorem depth_pdAll : ∀ d : List D, PyData.depthAll (pdAll d) ≤ depAll d
  | [] => by unfold pdAll; unfold PyData.depthAll; exact Nat.zero_le _
  | x :: xs => by
    unfold pdAll
    unfold PyData.depthAll
    unfold depAll
    have h1 := depth_pd x
    have h2 := depth_pdAll xs
    omega
end
/-- what == takes -/
def okD (d : D) : Bool := plain d && decide (dep d ≤ 64)
theorem shaped_pd {d : D} (h : okD d = true) : SeqAt.shaped (pd d) = true := by
  obtain ⟨h1, h2⟩ := Bool.and_eq_true_iff.mp h
  have h3 : dep d ≤ 64 := of_decide_eq_true h2
  have h4 := depth_pd d
  unfold SeqAt.shaped
  rw [canLay_pd d h1, Bool.true_and]
  exact decide_eq_true (by omega)
section
variable {K : PySem.W.Frag} {F H : Hp}
mutual
theorem Rp.dp (sub : ∀ a u, F a = some u → RdD H a u) : ∀ {v : V} {d : D}, Rp F v d → plain d = true → Dp K H v (pd d)
  | _, _, .non, _ => by unfold pd; exact .non
  | _, _, .bl b, _ => by unfold pd; exact .bl b
  | _, _, .int i, _ => by unfold pd; exact .int i
  | _, _, .str x, _ => by unfold pd; exact .str x
  | _, _, .opq v, h => by unfold plain at h; cases h
  | _, _, .lst e r, h => by
    unfold plain at h
    unfold pd
    exact .lst (.inl (sub _ _ e).rd) (RpAll.dp sub r h)
  | _, _, .tup e r, h => by
    unfold plain at h
    unfold pd
    exact .tup (.inl (sub _ _ e).rd) (RpAll.dp sub r h)
  | _, _, .dk _ _, h => by unfold plain at h; cases h
  | _, _, .dt _ _, h => by unfold plain at h; cases h
theorem RpAll.dp (sub : ∀ a u, F a = some u → RdD H a u) : ∀ {v : List V} {d : List D}, RpAll F v d → plainAll d = true → DpAll K H v (pdAll d)
  | _, _, .nil, _ => by unfold pdAll; exact .nil
  | _, _, .cons e r, h => by
    unfold plainAll at h
    obtain ⟨h1, h2⟩ := Bool.and_eq_true_iff.mp h
    unfold pdAll
    exact .cons (Rp.dp sub e h1) (RpAll.dp sub r h2)
end
end
/-- a list's place -/
theorem RdD.lst {H : Hp} {a : Addr} {xs : List V} (h : RdD H a (HO.lst xs)) : H a = some (HO.lst xs) := by
  rcases h with h | ⟨⟨k, z⟩ | ⟨k, z⟩, _⟩
  · exact h
  · cases z
  · cases z
theorem RdD.tup {H : Hp} {a : Addr} {xs : List V} (h : RdD H a (HO.tup xs)) : H a = some (HO.tup xs) := by
  rcases h with h | ⟨⟨k, z⟩ | ⟨k, z⟩, _⟩
  · exact h
  · cases z
  · cases z

section
variable {X : Cx}
/-! ### whole numbers -/
@[reducible] def kI (C : Int → Int → Prop) (G : Int → Int → D) : K2 := fun x _ y _ Q => match x, y with
  | .int i, .int j => C i j ∧ Q (G i j) true
  | _, _ => False
@[reducible] def kI0 (G : Int → Int → D) : K2 := fun x _ y _ Q => match x, y with
  | .int i, .int j => Q (G i j) true
  | _, _ => False
theorem ok_kI {C : Int → Int → Prop} {g : Int → Int → V} {G : Int → Int → D} (hg : ∀ i j, flatD (G i j) (g i j)) : OK2 X (rI C g) (kI C G) := by
  intro R F H σ Γ x y dx fx dy fy Q Qt hK h rx ry eq k
  cases dx with
  | int i => cases dy with
    | int j => exact ⟨i, j, rp_int rx, rp_int ry, k.1, eq _ F H _ true h Nx.refl (flatD.rp (hg i j)) k.2⟩
    | _ => exact k.elim
  | _ => exact k.elim
theorem ok_kI0 {g : Int → Int → V} {G : Int → Int → D} (hg : ∀ i j, flatD (G i j) (g i j)) : OK2 X (rI0 g) (kI0 G) := by
  intro R F H σ Γ x y dx fx dy fy Q Qt hK h rx ry eq k
  cases dx with
  | int i => cases dy with
    | int j => exact ⟨i, j, rp_int rx, rp_int ry, eq _ F H _ true h Nx.refl (flatD.rp (hg i j)) k⟩
    | _ => exact k.elim
  | _ => exact k.elim
theorem flatD_int (i j : Int) (f : Int → Int → Int) : flatD (.int (f i j)) (.int (f i j)) := rfl
/-- + : whole numbers, texts, lists -/
@[reducible] def kAdd : K2 := fun x fx y fy Q => match x, y with
  | .int i, .int j => Q (.int (i + j)) true
  | .str a, .str b => a.length + b.length ≤ sizeLine ∧ Q (.str (a ++ b)) true
  | .lst a, .lst b => a.length + b.length ≤ sizeLine ∧ Q (.lst (a ++ b)) (fx && fy)
  | _, _ => False
def rStr2 : R2 := fun x y H Q => ∃ i j, x = .str i ∧ y = .str j ∧ i.length + j.length ≤ sizeLine ∧ Q (.str (i ++ j)) H
theorem rpAll_and {R : Rl} {F : Hp} {fx fy : Bool} {vs ws : List V} {ds es : List D} (h1 : RpAll (fF R F fx) vs ds) (h2 : RpAll (fF R F fy) ws es) : RpAll (fF R F (fx && fy)) (vs ++ ws) (ds ++ es) := by
  cases fx with
  | true => cases fy with
    | true => exact h1.append h2
    | false => exact (h1.mono nw_ex).append h2
  | false => exact h1.append (h2.mono fF_ex)
theorem o_add : OpR X (binaryOp .Add) (fun x y H Q => (rI0 (fun i j => .int (i + j)) x y H Q ∨ rStr2 x y H Q) ∨ rCat x y H Q) ∧ OK2 X (fun x y H Q => (rI0 (fun i j => .int (i + j)) x y H Q ∨ rStr2 x y H Q) ∨ rCat x y H Q) kAdd := by
  refine ⟨(op_add.or op_add_str).or op_cat, ?_⟩
  intro R F H σ Γ x y dx fx dy fy Q Qt hK h rx ry eq k
  cases dx with
  | int i => cases dy with
    | int j => exact .inl (.inl ⟨i, j, rp_int rx, rp_int ry, eq _ F H _ true h Nx.refl (.int _) k⟩)
    | _ => exact k.elim
  | str i => cases dy with
    | str j => exact .inl (.inr ⟨i, j, rp_str rx, rp_str ry, k.1, eq _ F H _ true h Nx.refl (.str _) k.2⟩)
    | _ => exact k.elim
  | lst a => cases dy with
    | lst b =>
      have hx : ∃ p vs, x = .ref p ∧ fF R F fx p = some (.lst vs) ∧ RpAll (fF R F fx) vs a := by
        cases rx with
        | lst e r => exact ⟨_, _, rfl, e, r⟩
      have hy : ∃ p vs, y = .ref p ∧ fF R F fy p = some (.lst vs) ∧ RpAll (fF R F fy) vs b := by
        cases ry with
        | lst e r => exact ⟨_, _, rfl, e, r⟩
      obtain ⟨p, vs, e1, e2, r1⟩ := hx
      obtain ⟨q, ws, e3, e4, r2⟩ := hy
      refine .inr ⟨p, q, vs, ws, e1, e3, RdD.lst (h.sub _ _ (fF_ex _ _ e2)), RdD.lst (h.sub _ _ (fF_ex _ _ e4)), by rw [r1.length, r2.length]; exact k.1, fun l hl => ?_⟩
      obtain ⟨h2, x2, at_⟩ := h.newF (o := .lst (vs ++ ws)) hl
      exact eq _ _ _ _ _ h2 x2 (.lst (at_ _) ((rpAll_and r1 r2).mono (fF_mono x2.ex))) k.2
    | _ => exact k.elim
  | _ => exact k.elim
theorem o_sub : OpR X (binaryOp .Sub) (rI0 fun i j => .int (i - j)) ∧ OK2 X (rI0 fun i j => .int (i - j)) (kI0 fun i j => .int (i - j)) := ⟨op_sub, ok_kI0 fun _ _ => rfl⟩
/-- * : whole numbers (together below a million bits), a list by a number -/
@[reducible] def kMul : K2 := fun x fx y _ Q => match x, y with
  | .int i, .int j => CMulW i j ∧ Q (.int (i * j)) true
  | .lst a, .int k => (-(2 ^ 63) ≤ k ∧ k < 2 ^ 63 ∧ a.length * k.toNat ≤ sizeLine) ∧ Q (.lst (List.replicate k.toNat a).flatten) fx
  | _, _ => False
theorem rpAll_rep {F : Hp} {vs : List V} {ds : List D} (h : RpAll F vs ds) : ∀ k : Nat, RpAll F (List.replicate k vs).flatten (List.replicate k ds).flatten
  | 0 => .nil
  | k + 1 => by
    rw [List.replicate_succ, List.replicate_succ, List.flatten_cons, List.flatten_cons]
    exact h.append (rpAll_rep h k)
theorem o_mul : OpR X (binaryOp .Mult) (fun x y H Q => rI CMulW (fun i j => .int (i * j)) x y H Q ∨ rRep x y H Q) ∧ OK2 X (fun x y H Q => rI CMulW (fun i j => .int (i * j)) x y H Q ∨ rRep x y H Q) kMul := by
  refine ⟨op_mulW.or op_rep, ?_⟩
  intro R F H σ Γ x y dx fx dy fy Q Qt hK h rx ry eq k
  cases dx with
  | int i => cases dy with
    | int j => exact .inl ⟨i, j, rp_int rx, rp_int ry, k.1, eq _ F H _ true h Nx.refl (.int _) k.2⟩
    | _ => exact k.elim
  | lst a => cases dy with
    | int j =>
      have hx : ∃ p vs, x = .ref p ∧ fF R F fx p = some (.lst vs) ∧ RpAll (fF R F fx) vs a := by
        cases rx with
        | lst e r => exact ⟨_, _, rfl, e, r⟩
      obtain ⟨p, vs, e1, e2, r1⟩ := hx
      refine .inr ⟨p, j, vs, e1, rp_int ry, RdD.lst (h.sub _ _ (fF_ex _ _ e2)), k.1.1, k.1.2.1, by rw [r1.length]; exact k.1.2.2, fun l hl => ?_⟩
      obtain ⟨h2, x2, at_⟩ := h.newF (o := .lst (List.replicate j.toNat vs).flatten) hl
      exact eq _ _ _ _ _ h2 x2 (.lst (at_ _) ((rpAll_rep r1 _).mono (fF_mono x2.ex))) k.2
    | _ => exact k.elim
  | _ => exact k.elim
theorem o_mod : OpR X (binaryOp .Mod) (rI (fun _ j => 0 < j) fun i j => .int (i % j)) ∧ OK2 X (rI (fun _ j => 0 < j) fun i j => .int (i % j)) (kI (fun _ j => 0 < j) fun i j => .int (i % j)) := ⟨op_mod, ok_kI fun _ _ => rfl⟩
theorem o_fdiv : OpR X (binaryOp .FloorDiv) (rI CDivW fun i j => .int (i / j)) ∧ OK2 X (rI CDivW fun i j => .int (i / j)) (kI CDivW fun i j => .int (i / j)) := ⟨op_fdivW, ok_kI fun _ _ => rfl⟩
theorem o_shl : OpR X (binaryOp .LShift) (rI CPow fun i j => .int (i * 2 ^ j.toNat)) ∧ OK2 X (rI CPow fun i j => .int (i * 2 ^ j.toNat)) (kI CPow fun i j => .int (i * 2 ^ j.toNat)) := ⟨op_shl, ok_kI fun _ _ => rfl⟩
theorem o_shr : OpR X (binaryOp .RShift) (rI (fun _ j => 0 ≤ j) fun i j => .int (i / 2 ^ j.toNat)) ∧ OK2 X (rI (fun _ j => 0 ≤ j) fun i j => .int (i / 2 ^ j.toNat)) (kI (fun _ j => 0 ≤ j) fun i j => .int (i / 2 ^ j.toNat)) := ⟨op_shr, ok_kI fun _ _ => rfl⟩
theorem o_and : OpR X (binaryOp .BitAnd) (rI0 fun i j => .int (Builtin.bitAnd i j)) ∧ OK2 X (rI0 fun i j => .int (Builtin.bitAnd i j)) (kI0 fun i j => .int (Builtin.bitAnd i j)) := ⟨op_and, ok_kI0 fun _ _ => rfl⟩
theorem o_xor : OpR X (binaryOp .BitXor) (rI0 fun i j => .int (Builtin.bitXor i j)) ∧ OK2 X (rI0 fun i j => .int (Builtin.bitXor i j)) (kI0 fun i j => .int (Builtin.bitXor i j)) := ⟨op_xor, ok_kI0 fun _ _ => rfl⟩
/-! ### comparisons -/
theorem o_lt : OpR X (compareOp .Lt) (rI0 fun i j => .bl (decide (i < j))) ∧ OK2 X (rI0 fun i j => .bl (decide (i < j))) (kI0 fun i j => .bl (decide (i < j))) := ⟨op_lt, ok_kI0 fun _ _ => rfl⟩
theorem o_le : OpR X (compareOp .LtE) (rI0 fun i j => .bl (decide (i ≤ j))) ∧ OK2 X (rI0 fun i j => .bl (decide (i ≤ j))) (kI0 fun i j => .bl (decide (i ≤ j))) := ⟨op_le, ok_kI0 fun _ _ => rfl⟩
theorem o_gt : OpR X (compareOp .Gt) (rI0 fun i j => .bl (decide (j < i))) ∧ OK2 X (rI0 fun i j => .bl (decide (j < i))) (kI0 fun i j => .bl (decide (j < i))) := ⟨op_gt, ok_kI0 fun _ _ => rfl⟩
theorem o_ge : OpR X (compareOp .GtE) (rI0 fun i j => .bl (decide (j ≤ i))) ∧ OK2 X (rI0 fun i j => .bl (decide (j ≤ i))) (kI0 fun i j => .bl (decide (j ≤ i))) := ⟨op_ge, ok_kI0 fun _ _ => rfl⟩
/-- == by data -/
@[reducible] def kEq : K2 := fun x _ y _ Q => match x, y with
  | .int i, .int j => Q (.bl (decide (i = j))) true
  | x, y => (okD x = true ∧ okD y = true) ∧ Q (.bl (PyData.eqv (pd x) (pd y))) true
@[reducible] def kNe : K2 := fun x _ y _ Q => match x, y with
  | .int i, .int j => Q (.bl (!decide (i = j))) true
  | x, y => (okD x = true ∧ okD y = true) ∧ Q (.bl (!PyData.eqv (pd x) (pd y))) true
theorem decV_int (i j : Int) : decide (V.int i = V.int j) = decide (i = j) := by
  by_cases e : i = j
  · rw [decide_eq_true e, decide_eq_true (by rw [e])]
  · rw [decide_eq_false e, decide_eq_false (fun z => e (by injection z))]
theorem kEq_cases {x y : D} {fx fy : Bool} {Q : D → Bool → Prop} (k : kEq x fx y fy Q) : (∃ i j, x = .int i ∧ y = .int j ∧ Q (.bl (decide (i = j))) true) ∨ ((okD x = true ∧ okD y = true) ∧ Q (.bl (PyData.eqv (pd x) (pd y))) true) := by
  cases x with
  | int i => cases y with
    | int j => exact .inl ⟨i, j, rfl, rfl, k⟩
    | _ => exact .inr k
  | _ => exact .inr k
theorem kNe_cases {x y : D} {fx fy : Bool} {Q : D → Bool → Prop} (k : kNe x fx y fy Q) : (∃ i j, x = .int i ∧ y = .int j ∧ Q (.bl (!decide (i = j))) true) ∨ ((okD x = true ∧ okD y = true) ∧ Q (.bl (!PyData.eqv (pd x) (pd y))) true) := by
  cases x with
  | int i => cases y with
    | int j => exact .inl ⟨i, j, rfl, rfl, k⟩
    | _ => exact .inr k
  | _ => exact .inr k
theorem o_eq (hu : X.A.units + 64 < cLine) : OpR X (compareOp .Eq) (fun x y H Q => rEq x y H Q ∨ rEqD X.K x y H Q) ∧ OK2 X (fun x y H Q => rEq x y H Q ∨ rEqD X.K x y H Q) kEq := by
  refine ⟨op_eq.or (op_eqD hu), ?_⟩
  intro R F H σ Γ x y dx fx dy fy Q Qt hK h rx ry eq k
  rcases kEq_cases k with ⟨i, j, e1, e2, q⟩ | ⟨⟨h1, h2⟩, q⟩
  · subst e1
    subst e2
    have z1 := rp_int rx
    have z2 := rp_int ry
    subst z1
    subst z2
    refine .inl ⟨rfl, ?_⟩
    rw [decV_int]
    exact eq _ F H _ true h Nx.refl (.bl _) q
  · obtain ⟨p1, _⟩ := Bool.and_eq_true_iff.mp h1
    obtain ⟨p2, _⟩ := Bool.and_eq_true_iff.mp h2
    exact .inr ⟨pd dx, pd dy, Rp.dp h.sub (rx.mono fF_ex) p1, Rp.dp h.sub (ry.mono fF_ex) p2, shaped_pd h1, shaped_pd h2, eq _ F H _ true h Nx.refl (.bl _) q⟩
theorem o_ne (hu : X.A.units + 64 < cLine) : OpR X (compareOp .NotEq) (fun x y H Q => rNe x y H Q ∨ rNeD X.K x y H Q) ∧ OK2 X (fun x y H Q => rNe x y H Q ∨ rNeD X.K x y H Q) kNe := by
  refine ⟨op_ne.or (op_neD hu), ?_⟩
  intro R F H σ Γ x y dx fx dy fy Q Qt hK h rx ry eq k
  rcases kNe_cases k with ⟨i, j, e1, e2, q⟩ | ⟨⟨h1, h2⟩, q⟩
  · subst e1
    subst e2
    have z1 := rp_int rx
    have z2 := rp_int ry
    subst z1
    subst z2
    refine .inl ⟨rfl, ?_⟩
    rw [decV_int]
    exact eq _ F H _ true h Nx.refl (.bl _) q
  · obtain ⟨p1, _⟩ := Bool.and_eq_true_iff.mp h1
    obtain ⟨p2, _⟩ := Bool.and_eq_true_iff.mp h2
    exact .inr ⟨pd dx, pd dy, Rp.dp h.sub (rx.mono fF_ex) p1, Rp.dp h.sub (ry.mono fF_ex) p2, shaped_pd h1, shaped_pd h2, eq _ F H _ true h Nx.refl (.bl _) q⟩
/-- is None -/
def isNonD : D → Bool
  | .non => true
  | _ => false
@[reducible] def kIsN : K2 := fun x _ y _ Q => match x, y with
  | .opq _, _ => False
  | x, .non => Q (.bl (isNonD x)) true
  | _, _ => False
@[reducible] def kNotN : K2 := fun x _ y _ Q => match x, y with
  | .opq _, _ => False
  | x, .non => Q (.bl (!isNonD x)) true
  | _, _ => False
theorem isNon_of {F : Hp} {x : V} {d : D} (r : Rp F x d) (h : ∀ v, d ≠ .opq v) : decide (x = .non) = isNonD d := by
  cases r with
  | opq => exact absurd rfl (h _)
  | non => rfl
  | _ => exact decide_eq_false (by intro z; cases z)
theorem kIsN_cases {x y : D} {fx fy : Bool} {Q : D → Bool → Prop} (k : kIsN x fx y fy Q) : (∀ v, x ≠ .opq v) ∧ y = .non ∧ Q (.bl (isNonD x)) true := by
  cases x <;> cases y <;> first | exact k.elim | exact ⟨fun v z => (by cases z), rfl, k⟩
theorem kNotN_cases {x y : D} {fx fy : Bool} {Q : D → Bool → Prop} (k : kNotN x fx y fy Q) : (∀ v, x ≠ .opq v) ∧ y = .non ∧ Q (.bl (!isNonD x)) true := by
  cases x <;> cases y <;> first | exact k.elim | exact ⟨fun v z => (by cases z), rfl, k⟩
def rIsN' : R2 := fun x y H Q => y = .non ∧ Q (.bl (decide (x = .non))) H
def rNotN' : R2 := fun x y H Q => y = .non ∧ Q (.bl (!decide (x = .non))) H
theorem o_isN : OpR X (compareOp .Is) rIsN' ∧ OK2 X rIsN' kIsN := by
  refine ⟨op_isN, ?_⟩
  intro R F H σ Γ x y dx fx dy fy Q Qt hK h rx ry eq k
  obtain ⟨h1, e, q⟩ := kIsN_cases k
  subst e
  refine ⟨rp_non ry, ?_⟩
  rw [isNon_of rx h1]
  exact eq _ F H _ true h Nx.refl (.bl _) q
theorem o_notN : OpR X (compareOp .IsNot) rNotN' ∧ OK2 X rNotN' kNotN := by
  refine ⟨op_notN, ?_⟩
  intro R F H σ Γ x y dx fx dy fy Q Qt hK h rx ry eq k
  obtain ⟨h1, e, q⟩ := kNotN_cases k
  subst e
  refine ⟨rp_non ry, ?_⟩
  rw [isNon_of rx h1]
  exact eq _ F H _ true h Nx.refl (.bl _) q
end
end Y

/-! Y: part 4: defs whose caller shows no container (repr is free to be called): their runs, calls, bodies, the law's own call. -/
namespace Y
open PySem PySem.Spec PyProof.Rows L2

/-- a def keeps its promise wherever nothing is being shown -/
structure FnG (P : Program) (w : World) (K : PySem.W.Frag) (mg : Str → Option Value) (base : Heap) (k : Nat) (f : Addr) (fd : FuncData) (ps : List Str) (sp : Sp) : Prop where
  many : ∀ vs H Q E, sp vs H Q E → vs.length = ps.length
  go : ∀ {A : Around} {outer : List Env} {s : Shared} {H : Hp} {args : Args} {us : List Value} {vs : List V} {Q : VK} {E : XK}, A.guards = some [] → Room k A → Env0 P w K mg base A outer s H → BindsTo s fd args (ps.zip us) → Vals vs us → sp vs H Q E →
    codeAny (model P w) A (.call (.ref f) args) (CR (L2.CX P w) outer P w H s Q E) s
theorem FnG.of {P : Program} {w : World} {K : PySem.W.Frag} {mg : Str → Option Value} {base : Heap} {k : Nat} {f : Addr} {fd : FuncData} {ps : List Str} {sp : Sp} (F : FnOk P w K mg base (L2.CX P w) k f fd ps sp) : FnG P w K mg base k f fd ps sp :=
  ⟨F.len, fun _ hr e0 hb hv hs => F.run _ _ _ _ _ _ _ _ _ hr e0 hb hv hs⟩
theorem FnG.up {P : Program} {w : World} {K : PySem.W.Frag} {mg : Str → Option Value} {base : Heap} {j k : Nat} {f : Addr} {fd : FuncData} {ps : List Str} {sp : Sp} (F : FnG P w K mg base j f fd ps sp) (h : j ≤ k) : FnG P w K mg base k f fd ps sp :=
  ⟨F.many, fun hg hr e0 hb hv hs => F.go hg (hr.mono h) e0 hb hv hs⟩

section
variable {X : Cx} {k : Nat} {f : Addr} {fd : FuncData} {ps : List Str} {sp : Sp} {E : XK} {x : Str} {p pos : Pos} {e : Expr} {es : List Expr} {t : TA}
/-- from within a body: the callee's run and what lies behind it -/
theorem FnG.within (F : FnG X.prog X.w X.K X.mg X.base k f fd ps sp) (hgd : X.A.guards = some []) (hr : Room k X.A) (hb : Binds X.K fd ps []) (hx : Passes (L2.CX X.prog X.w) X E) {pins : List (Addr × Obj)} {σ : L2.St} {H : Hp} {s : Shared} {Q : VK} {us : List Value} {vs : List V}
    (I : Inv X pins σ H s) (r : Vals vs us) (h : sp vs H Q E) : wpAny (model X.prog X.w) X.A (call (.ref f) us) (EP X pins σ Q) X.xe s := by
  have n := F.many _ _ _ _ h
  have n2 : (us ++ []).length = ps.length := by rw [List.append_nil, ← r.length, n]
  have b := hb s us I.kIn n2
  rw [List.append_nil] at b
  have run := F.go hgd hr I.env0 b r h
  apply wpAny_call
  refine codeAny_mono run ?_
  intro res s' q
  match res, q with
  | .error e, q => exact hx pins σ H s e s' I q
  | .ok (.ret u), q => exact I.after q
theorem pe_fnG (F : FnG X.prog X.w X.K X.mg X.base k f fd ps sp) (hgd : X.A.guards = some []) (hr : Room k X.A) (hm : X.mg x = some (.ref f)) (hk : PySem.W.keepIn X.K (.ref f) = true) (hb : Binds X.K fd ps []) (hx : Passes (L2.CX X.prog X.w) X E)
    (ha : PA X (e :: es) t) (hg : Gl X x := by rfl) (hdb : (x == ("__debug__" : Str)) = false := by decide) (he : starEach (e :: es) X.env = (false, eval e X.env) :: starEach es X.env := by rfl) (hpl : (backTo pos (starEach es X.env)).any (·.1) = false := by rfl) :
    PE X (.Call (.Name x p) (e :: es) [] pos) (tCall sp [] E t) := by
  constructor
  intro pins s σ H Q I h
  apply wpAny_Call_Name_kw
  refine ld_glob I hg hm ?_ hdb
  refine PySem.W.callWith_K (h₀ := X.base) I.ok.mod.kin hk ?_ he hpl
  refine thn (ha.run pos pins s σ H _ I h) ?_
  rintro us s1 ⟨vs, H1, I1, r, q⟩
  rw [List.append_nil] at q
  exact ⟨I1.kIn, F.within hgd hr hb hx I1 r q⟩
theorem pe_fnG0 (F : FnG X.prog X.w X.K X.mg X.base k f fd ps sp) (hgd : X.A.guards = some []) (hr : Room k X.A) (hm : X.mg x = some (.ref f)) (hk : PySem.W.keepIn X.K (.ref f) = true) (hb : Binds X.K fd ps []) (hx : Passes (L2.CX X.prog X.w) X E)
    (hg : Gl X x := by rfl) (hdb : (x == ("__debug__" : Str)) = false := by decide) : PE X (.Call (.Name x p) [] [] pos) (tCall sp [] E tNil) := by
  constructor
  intro pins s σ H Q I h
  apply wpAny_Call_Name_kw
  refine ld_glob I hg hm ?_ hdb
  exact PySem.W.callWith_K0 I.kIn hk (F.within (us := []) hgd hr hb hx I .nil h)
end

/-- the body of a def of the text -/
theorem fnG_of {P : Program} {w : World} {K : PySem.W.Frag} {mg : Str → Option Value} {base : Heap} {k : Nat} {f : Addr} {x qual : Str} {params : Arguments} {body : List Stmt} {scope : Scope} {fd : FuncData} {N ps : List Str} {sp : Sp}
    (F : FunD K x qual params body scope [] [] f fd) (S : FnScope N ps scope) (len : ∀ vs H Q E, sp vs H Q E → vs.length = ps.length)
    (hbody : ∀ (cdv : Value) (A : Around) (outer : List Env) (s : Shared) (H : Hp) (vs : List V) (Q : VK) (E : XK), (A.deeper (envOfC qual scope s.heap.objs.size f cdv)).guards = some [] → Room k (A.deeper (envOfC qual scope s.heap.objs.size f cdv)) → sp vs H Q E →
      ∃ t, PSs (cxOf (L2.CX P w) P w K mg base N qual scope f cdv A outer s H E) body t ∧ t { nx := fun _ H' => Q .non H', rt := Q } (start N vs) H) : FnG P w K mg base (k + 1) f fd ps sp := by
  obtain ⟨oc, od, dV, kV, doc, pm, an, cdv, ct, osl, rfl, lk, hcd, _, _⟩ := F.ex
  refine ⟨len, ?_⟩
  intro A outer s H args us vs Q E hgd hr e0 hb r hsp
  have stands : ∀ b o, base.get? b = some o → s.heap.get? b = some o := fun b o e => (e0.bs b o e).1
  have KX : K.In s.heap := e0.mod.kin.keeps stands
  have lim : s.heap.NoLimit := e0.mod.nolimit.keeps stands
  have kinds : ∀ y ∈ ps.zip us, scope.names.lookup y.1 = some .local ∨ (scope.names.lookup y.1 = some .cell ∧ ((cellsFrom (s.heap.objs.size + 1) scope.names []).lookup y.1).isSome = true) := by
    rintro ⟨n, v⟩ hy
    rcases S.par n (List.of_mem_zip hy).1 with q | q
    · exact .inl q
    · exact .inr ⟨q, PySem.W.cellsFrom_some _ _ _ (.inl q)⟩
  refine codeAny_call_function hr.depth (KX _ _ lk) rfl S.co S.gen rfl (PySem.W.codeRec_of KX hcd) (hb _ _ _ _ ?_)
  refine wpAny_newFunctionEnv_cells S.kind kinds ?_
  intro env he s1 x1
  subst he
  refine ⟨lim.keeps x1.toInCall.keep, codeAny_func ?_⟩
  obtain ⟨t, ht, hq⟩ := hbody cdv A outer s H vs Q E hgd (hr.deeper _) hsp
  have I := inv_start (P := P) (w := w) (K := K) (mg := mg) (base := base) (qual := qual) (f := f) (cd := cdv) (CX := L2.CX P w) (E := E) S hr.hd e0 (len _ _ _ _ hsp) r x1
  refine wpAny_mono (ht.run [] s1 (start N vs) H _ I hq) ?_ (fun _ _ z => z)
  intro fl s' hs
  match fl, hs with
  | .ret u, ⟨v, σ', H', J, rv, q⟩ => exact ⟨v, H', J.os, J.bare, J.base, J.hok, rv, q⟩
  | .next, ⟨σ', H', J, q⟩ => exact ⟨.non, H', J.os, J.bare, J.base, J.hok, rfl, q⟩
  | .brk, ⟨_, _, _, q⟩ => exact False.elim q
  | .cont, ⟨_, _, _, q⟩ => exact False.elim q
end Y

/-! Y: part 5: what is looked into (views), subscripts, in, calls. -/
namespace Y
open PySem L2

/-! ### what is looked into: a value, or the thing of one's own in a slot -/
inductive Vw where
  | val (d : D) (fr : Bool) | own (i : Nat)
@[reducible] def lkV (Γ : En) : Vw → Option (D × Bool)
  | .val d fr => some (d, fr)
  | .own i => match gt Γ i with
    | some (.own o fr) => some (o, fr)
    | some (.ino o) => some (o, false)
    | _ => none
def VwOk (R : Rl) (F : Hp) (σ : L2.St) (v : V) : Vw → Prop
  | .val d fr => Rpf R F fr v d
  | .own i => σ[i]? = some (some v)
abbrev WV := EX → En → (Vw → En → Prop) → Prop
def VQ (R : Rl) (F H : Hp) (σ : L2.St) (Γ : En) (Q : Vw → En → Prop) (Qt : VK) : Prop := ∀ v F' H' Γ' vw, Hd R F' H' σ Γ' → Nx σ F H Γ F' H' Γ' → VwOk R F' σ v vw → Q vw Γ' → Qt v H'
def SV (X : Cx) (E : XK) (te : TE) (w : WV) : Prop := ∀ (R : Rl) (F H : Hp) (σ : L2.St) (Γ : En) (ex : EX) Q Qt, Go X R E ex → Hd R F H σ Γ → VQ R F H σ Γ Q Qt → w ex Γ Q → te σ H Qt
def PWV (X : Cx) (E : XK) (e : Expr) (w : WV) : Prop := ∃ te : TE, PE X e te ∧ SV X E te w
theorem VwOk.mono {R : Rl} {F F' : Hp} {σ : L2.St} {v : V} (x : Ex F F') : ∀ {vw : Vw}, VwOk R F σ v vw → VwOk R F' σ v vw
  | .val _ _, h => Rp.mono (fF_mono x) h
  | .own _, h => h
/-- what is seen of a thing -/
def Sees (R : Rl) (F H : Hp) (v : V) (d : D) (fr : Bool) : Prop := match d with
  | .lst ds => ∃ p vs, v = .ref p ∧ H p = some (.lst vs) ∧ RpAll (fF R F fr) vs ds
  | .tup ds => ∃ p vs, v = .ref p ∧ H p = some (.tup vs) ∧ RpAll (fF R F fr) vs ds
  | .dk ds => ∃ p vs, v = .ref p ∧ RdD H p (.dK vs) ∧ RpK (fF R F fr) vs ds
  | .dt ds => ∃ p vs, v = .ref p ∧ RdD H p (.dT vs) ∧ RpT (fF R F fr) vs ds
  | d => Rpf R F fr v d
theorem Sees.of {R : Rl} {F H : Hp} {v : V} {d : D} {fr : Bool} (sub : ∀ a u, F a = some u → RdD H a u) (r : Rpf R F fr v d) : Sees R F H v d fr := by
  cases r with
  | lst e r => exact ⟨_, _, rfl, RdD.lst (sub _ _ (fF_ex _ _ e)), r⟩
  | tup e r => exact ⟨_, _, rfl, RdD.tup (sub _ _ (fF_ex _ _ e)), r⟩
  | dk e r => exact ⟨_, _, rfl, sub _ _ (fF_ex _ _ e), r⟩
  | dt e r => exact ⟨_, _, rfl, sub _ _ (fF_ex _ _ e), r⟩
  | non => exact .non
  | bl b => exact .bl b
  | int b => exact .int b
  | str b => exact .str b
  | opq b => exact .opq _
theorem Sees.top {R : Rl} {F H : Hp} {p : Addr} {o : D} {fr : Bool} (t : TopH (fF R F fr) H p o) : Sees R F H (.ref p) o fr := by
  cases o with
  | lst ds => obtain ⟨vs, e, r⟩ := t; exact ⟨p, vs, rfl, e, r⟩
  | dk ds => obtain ⟨vs, e, r⟩ := t; exact ⟨p, vs, rfl, .inl e, r⟩
  | dt ds => obtain ⟨vs, e, r⟩ := t; exact ⟨p, vs, rfl, .inl e, r⟩
  | _ => exact t.elim
theorem vw_sees {R : Rl} {F H : Hp} {σ : L2.St} {Γ : En} (h : Hd R F H σ Γ) {v : V} {vw : Vw} {d : D} {fr : Bool} (ok : VwOk R F σ v vw) (l : lkV Γ vw = some (d, fr)) : Sees R F H v d fr := by
  cases vw with
  | val d' fr' =>
    have e : (d', fr') = (d, fr) := Option.some.inj l
    injection e with e1 e2
    subst e1
    subst e2
    exact Sees.of h.sub ok
  | own i =>
    unfold lkV at l
    cases q : gt Γ i with
    | none => simp only [q] at l; cases l
    | some s =>
      obtain ⟨v', e1, so⟩ := h.sl i s q
      have e2 : v' = v := by
        have ok' : σ[i]? = some (some v) := ok
        rw [e1] at ok'
        cases ok'
        rfl
      subst e2
      cases s with
      | own o f2 =>
        simp only [q] at l
        cases l
        obtain ⟨p, e3, _, _, t⟩ := so
        subst e3
        exact Sees.top t
      | ino o =>
        simp only [q] at l
        cases l
        obtain ⟨p, e3, _, t⟩ := so
        subst e3
        exact Sees.top (fr := false) t
      | dat _ _ => simp only [q] at l; cases l
      | raw _ => simp only [q] at l; cases l
      | scr _ => simp only [q] at l; cases l
      | old _ => simp only [q] at l; cases l
section
variable {X : Cx} {E : XK} {e a b c : Expr} {es : List Expr} {pos : Pos} {wa wb wc : WE} {va vb : WV}
@[reducible] def wVal (w : WE) : WV := fun ex Γ Q => w ex Γ fun d fr Γ' => Q (.val d fr) Γ'
theorem pv_of {w : WE} (h : PWE X E e w) : PWV X E e (wVal w) := by
  obtain ⟨te, pe, ke⟩ := h
  exact ⟨te, pe, fun R F H σ Γ ex Q Qt g hd vq w => ke R F H σ Γ ex _ _ g hd (fun v F' H' Γ' d fr h1 x1 r1 q => vq v F' H' Γ' (.val d fr) h1 x1 r1 q) w⟩
/-- a name that is looked into: data, or the thing of one's own -/
@[reducible] def wLook (i : Nat) : WV := fun _ Γ Q => match gt Γ i with
  | some (.dat d fr) => Q (.val d fr) Γ
  | some (.own _ _) => Q (.own i) Γ
  | some (.ino _) => Q (.own i) Γ
  | some (.old d) => Q (.val d false) Γ
  | _ => False
theorem pv_name (i : Nat) {x : Str} (hN : X.N[i]? = some x := by rfl) (hv : Vis X.env.scope x := by first | exact Or.inl rfl | exact Or.inr (Or.inl rfl) | exact Or.inr (Or.inr rfl)) (hd : (x == ("__debug__" : Str)) = false := by decide)
    (hcd : (x == ("__classdict__" : Str)) = false := by decide) : PWV X E (.Name x pos) (wLook i) := by
  refine ⟨tVar i, pe_var hN hv hd hcd, fun R F H σ Γ ex Q Qt g h vq w => ?_⟩
  unfold wLook at w
  cases q : gt Γ i with
  | none => simp only [q] at w
  | some s =>
    obtain ⟨v, e1, ok⟩ := h.sl i s q
    cases s with
    | dat d fr =>
      simp only [q] at w
      exact ⟨v, e1, vq v F H Γ (.val d fr) h Nx.refl ok w⟩
    | own o fr =>
      simp only [q] at w
      exact ⟨v, e1, vq v F H Γ (.own i) h Nx.refl e1 w⟩
    | ino o =>
      simp only [q] at w
      exact ⟨v, e1, vq v F H Γ (.own i) h Nx.refl e1 w⟩
    | raw u => simp only [q] at w
    | scr ns => simp only [q] at w
    | old d =>
      simp only [q] at w
      exact ⟨v, e1, vq v F H Γ (.val d false) h Nx.refl (Rp.mono h.f0 ok.1) w⟩

/-! ### a[b] -/
abbrev KIx := D → Bool → D → (D → Bool → Prop) → Prop
def OIx (X : Cx) (r : R2) (k : KIx) : Prop := ∀ (R : Rl) (F H : Hp) (σ : L2.St) (Γ : En) x y dx fx dy fy Q Qt, R.K = X.K → Hd R F H σ Γ → Sees R F H x dx fx → Rpf R F fy y dy → KQ R F H σ Γ Q Qt → k dx fx dy Q → r x y H Qt
@[reducible] def wIx (k : KIx) (va : WV) (wb : WE) : WE := fun ex Γ Q => va ex Γ fun vw Γ1 => wb ex Γ1 fun y _ Γ2 => match lkV Γ2 vw with
  | some (d, fr) => k d fr y fun z fz => Q z fz Γ2
  | none => False
theorem ok_ix {r : R2} {k : KIx} (hk : OIx X r k) {ta tb : TE} (ka : SV X E ta va) (kb : SE X E tb wb) : SE X E (tOp r ta tb) (wIx k va wb) := by
  intro R F H σ Γ ex Q Qt g h eq w
  refine ka R F H σ Γ ex _ _ g h (fun x F1 H1 Γ1 vw h1 x1 r1 w1 => kb R F1 H1 σ Γ1 ex _ _ g h1 (fun y F2 H2 Γ2 dy fy h2 x2 r2 w2 => ?_) w1) w
  cases l : lkV Γ2 vw with
  | none => simp only [l] at w2
  | some q =>
    obtain ⟨d, fr⟩ := q
    simp only [l] at w2
    exact hk R F2 H2 σ Γ2 x y d fr dy fy _ Qt g.K h2 (vw_sees h2 (r1.mono x2.ex) l) r2 (fun v F3 H3 d fr h3 x3 r3 q => eq v F3 H3 Γ2 d fr h3 ((x1.trans x2).trans x3) r3 q) w2
@[reducible] def keyOf : D → Option Key
  | .int i => some (.inl i)
  | .str x => some (.inr x)
  | _ => none
@[reducible] def keysOf : List D → Option (List Key)
  | [] => some []
  | d :: ds => match keyOf d, keysOf ds with
    | some k, some ks => some (k :: ks)
    | _, _ => none
@[reducible] def lookD {κ : Type} [DecidableEq κ] (kvs : List (κ × D)) (k : κ) : Option D := (kvs.find? fun kv => decide (kv.1 = k)).map (·.2)
def RpO (F : Hp) : Option V → Option D → Prop
  | some v, some d => Rp F v d
  | none, none => True
  | _, _ => False
theorem RpO.there {F : Hp} {o : Option V} {d : D} (h : RpO F o (some d)) : ∃ v, o = some v ∧ Rp F v d := by
  cases o with
  | none => exact h.elim
  | some v => exact ⟨v, rfl, h⟩
theorem RpO.away {F : Hp} {o : Option V} (h : RpO F o none) : o = none := by
  cases o with
  | none => rfl
  | some v => exact h.elim
theorem RpO.isSome {F : Hp} {o : Option V} {d : Option D} (h : RpO F o d) : o.isSome = d.isSome := by
  cases o <;> cases d <;> first | rfl | exact h.elim
theorem rpK_val {F : Hp} {k : Key} : ∀ {vs : List (Key × V)} {ds : List (Key × D)}, RpK F vs ds → RpO F (valV vs k) (lookD ds k)
  | _, _, .nil => trivial
  | _, _, .cons (k := j) (v := v) (d := d) (vs := vs) (ds := ds) h r => by
    by_cases e : j = k
    · have e1 : lookD ((j, d) :: ds) k = some d := by simp [lookD, List.find?_cons, e]
      have e2 : valV ((j, v) :: vs) k = some v := valV_pos e
      rw [e1, e2]
      exact h
    · have e1 : lookD ((j, d) :: ds) k = lookD ds k := by simp [lookD, List.find?_cons, e]
      have e2 : valV ((j, v) :: vs) k = valV vs k := valV_neg e
      rw [e1, e2]
      exact rpK_val r
theorem rpT_val {F : Hp} {k : List Key} : ∀ {vs : List (List Key × V)} {ds : List (List Key × D)}, RpT F vs ds → RpO F (valV vs k) (lookD ds k)
  | _, _, .nil => trivial
  | _, _, .cons (k := j) (v := v) (d := d) (vs := vs) (ds := ds) h r => by
    by_cases e : j = k
    · have e1 : lookD ((j, d) :: ds) k = some d := by simp [lookD, List.find?_cons, e]
      have e2 : valV ((j, v) :: vs) k = some v := valV_pos e
      rw [e1, e2]
      exact h
    · have e1 : lookD ((j, d) :: ds) k = lookD ds k := by simp [lookD, List.find?_cons, e]
      have e2 : valV ((j, v) :: vs) k = valV vs k := valV_neg e
      rw [e1, e2]
      exact rpT_val r
theorem keyOf_rp {F : Hp} {d : D} {v : V} {k : Key} (h : keyOf d = some k) (r : Rp F v d) : v = kV k := by
  cases r <;> first | (cases h; rfl) | cases h
theorem keysOf_rp {F : Hp} : ∀ {ds : List D} {vs : List V} {ks : List Key}, keysOf ds = some ks → RpAll F vs ds → vs = ks.map kV
  | [], _, _, h, .nil => by cases h; rfl
  | d :: ds, _, ks, h, .cons a r => by
    unfold keysOf at h
    cases q : keyOf d with
    | none => simp [q] at h
    | some k => cases q2 : keysOf ds with
      | none => simp [q, q2] at h
      | some kr =>
        simp only [q, q2] at h
        cases h
        rw [keyOf_rp q a, keysOf_rp q2 r]
        rfl
/-- d[i] by data -/
@[reducible] def kIx : KIx := fun d fr y Q => match d, y with
  | .lst ds, .int i => (match atI ds i with | some z => Q z (fr || flt z) | none => False)
  | .tup ds, .int i => (match atI ds i with | some z => Q z (fr || flt z) | none => False)
  | .dk kvs, y => (match keyOf y with
    | some k => (match lookD kvs k with | some z => Q z (fr || flt z) | none => False)
    | none => False)
  | .dt kvs, .tup ks => (match keysOf ks with
    | some k => (match lookD kvs k with | some z => Q z (fr || flt z) | none => False)
    | none => False)
  | _, _ => False
theorem atI_rp {F : Hp} {vs : List V} {ds : List D} {i : Int} {d : D} (r : RpAll F vs ds) (h : atI ds i = some d) : ∃ v, atI vs i = some v ∧ Rp F v d := by
  unfold atI at h ⊢
  rw [r.length]
  cases q : ixN ds.length i with
  | none => rw [q] at h; cases h
  | some j =>
    rw [q] at h
    exact r.get h
def rIxAll (K : PySem.W.Frag) : R2 := fun x y H Q => (rIxL K x y H Q ∨ rIxT K x y H Q) ∨ ∃ a v, x = .ref a ∧ DGet H a y (some v) ∧ Q v H
theorem ix_all (hu : X.A.units + 1 < cLine) : IxR X (rIxAll X.K) := by
  intro value slice pins s σ H x y v u Q I rx ry h hs
  rcases h with h | ⟨a, z, ex, g, q⟩
  · exact (ix_list.or ix_tup) value slice pins s σ H x y v u Q I rx ry h hs
  · subst ex
    obtain rfl : v = Value.ref a := rx
    exact PyProof.Rows.tail_any (dict_typeIs I g) PySem.F.slot_dict_getitem.lookup (d_getItem hu I g ry fun w' s' I' rw' => ⟨z, H, I', rw', q⟩) hs
theorem oix_all : OIx X (rIxAll X.K) kIx := by
  intro R F H σ Γ x y dx fx dy fy Q Qt hK h sx ry eq k
  have sq : ∀ {p : Addr} {vs : List V}, H p = some (.lst vs) → SqL X.K H p vs := fun e => .inl (.inl e)
  have sqt : ∀ {p : Addr} {vs : List V}, H p = some (.tup vs) → SqT X.K H p vs := fun e => .inl (.inl e)
  cases dx with
  | lst ds =>
    obtain ⟨p, vs, e1, e2, r⟩ := sx
    subst e1
    cases dy with
    | int i =>
      unfold kIx at k
      cases q : atI ds i with
      | none => simp only [q] at k
      | some z =>
        simp only [q] at k
        obtain ⟨v, e3, rz⟩ := atI_rp r q
        exact .inl (.inl ⟨p, vs, i, v, rfl, rp_int ry, sq e2, e3, eq v F H z _ h Nx.refl (Rp.fq (R := R) rz) k⟩)
    | _ => exact k.elim
  | tup ds =>
    obtain ⟨p, vs, e1, e2, r⟩ := sx
    subst e1
    cases dy with
    | int i =>
      unfold kIx at k
      cases q : atI ds i with
      | none => simp only [q] at k
      | some z =>
        simp only [q] at k
        obtain ⟨v, e3, rz⟩ := atI_rp r q
        exact .inl (.inr ⟨p, vs, i, v, rfl, rp_int ry, sqt e2, e3, eq v F H z _ h Nx.refl (Rp.fq (R := R) rz) k⟩)
    | _ => exact k.elim
  | dk kvs =>
    obtain ⟨p, vs, e1, e2, r⟩ := sx
    subst e1
    unfold kIx at k
    cases q : keyOf dy with
    | none => simp only [q] at k
    | some ky =>
      simp only [q] at k
      have ey := keyOf_rp q ry
      subst ey
      have vl := rpK_val (k := ky) r
      cases q2 : lookD kvs ky with
      | none => simp only [q2] at k
      | some z =>
        simp only [q2] at k vl
        obtain ⟨v, e3, rz⟩ := vl.there
        exact .inr ⟨p, v, rfl, .inl ⟨vs, ky, e2.rd, rfl, e3.symm⟩, eq v F H z _ h Nx.refl (Rp.fq (R := R) rz) k⟩
  | dt kvs =>
    obtain ⟨p, vs, e1, e2, r⟩ := sx
    subst e1
    cases dy with
    | tup ks =>
      unfold kIx at k
      cases q : keysOf ks with
      | none => simp only [q] at k
      | some ky =>
        simp only [q] at k
        have hy : ∃ b ws, y = .ref b ∧ H b = some (.tup ws) ∧ RpAll (fF R F fy) ws ks := by
          cases ry with
          | tup e r => exact ⟨_, _, rfl, RdD.tup (h.sub _ _ (fF_ex _ _ e)), r⟩
        obtain ⟨b, ws, e4, e5, rk⟩ := hy
        have ew := keysOf_rp q rk
        subst ew
        subst e4
        have vl := rpT_val (k := ky) r
        cases q2 : lookD kvs ky with
        | none => simp only [q2] at k
        | some z =>
          simp only [q2] at k vl
          obtain ⟨v, e3, rz⟩ := vl.there
          exact .inr ⟨p, v, rfl, .inr ⟨vs, ky, b, e2.rd, rfl, e5, e3.symm⟩, eq v F H z _ h Nx.refl (Rp.fq (R := R) rz) k⟩
    | _ => exact k.elim
  | _ => exact k.elim
theorem pw_ix (hu : X.A.units + 1 < cLine) (ha : PWV X E a va) (hb : PWE X E b wb) (hs : PlainIx b := by intro _ _; rfl) : PWE X E (.Subscript a b pos) (wIx kIx va wb) := by
  obtain ⟨ta, pa, ka⟩ := ha
  obtain ⟨tb, pb, kb⟩ := hb
  exact ⟨_, pe_ix (ix_all hu) pa pb hs, ok_ix oix_all ka kb⟩
end
end Y

/-! Y: part 6: in, built-in calls, calls of the text's own defs. -/
namespace Y
open PySem L2

section
variable {X : Cx} {E : XK} {e a b c : Expr} {es : List Expr} {pos p : Pos} {x : Str} {wa wb wc : WE} {va vb : WV}

/-! ### in, not in (the container looked into) -/
abbrev KIn := D → Bool → D → Bool → (Bool → Prop) → Prop
/-- x in d by data -/
@[reducible] def kIn (x : D) (d : D) (Q : Bool → Prop) : Prop := match d with
  | .lst ds => (okD x = true ∧ okD (.lst ds) = true) ∧ Q (ds.any fun z => PyData.eqv (pd z) (pd x))
  | .tup ds => ∃ (i : Int) (ns : List Int), x = .int i ∧ ds = ns.map .int ∧ Q (decide (i ∈ ns))
  | .dk kvs => (match keyOf x with
    | some k => Q (lookD kvs k).isSome
    | none => False)
  | .dt kvs => (match x with
    | .tup ks => (match keysOf ks with
      | some k => Q (lookD kvs k).isSome
      | none => False)
    | _ => False)
  | _ => False
@[reducible] def wIn (wa : WE) (vb : WV) : WE := fun ex Γ Q => wa ex Γ fun x _ Γ1 => vb ex Γ1 fun vw Γ2 => match lkV Γ2 vw with
  | some (d, _) => kIn x d fun r => Q (.bl r) true Γ2
  | none => False
@[reducible] def wNotIn (wa : WE) (vb : WV) : WE := fun ex Γ Q => wa ex Γ fun x _ Γ1 => vb ex Γ1 fun vw Γ2 => match lkV Γ2 vw with
  | some (d, _) => kIn x d fun r => Q (.bl (!r)) true Γ2
  | none => False
def rInAll (K : PySem.W.Frag) : R2 := fun x y H Q => (rInD K x y H Q ∨ rIn K false x y H Q) ∨ ∃ a o, y = .ref a ∧ DGet H a x o ∧ Q (.bl o.isSome) H
def rNotInAll (K : PySem.W.Frag) : R2 := fun x y H Q => (rNotInD K x y H Q ∨ rIn K true x y H Q) ∨ ∃ a o, y = .ref a ∧ DGet H a x o ∧ Q (.bl (!o.isSome)) H
theorem op_inAll (hu : X.A.units + 65 < cLine) : OpR X (compareOp .In) (rInAll X.K) := by
  intro pins s σ H x y v u Q I rx ry h
  rcases h with h | ⟨a, o, ey, g, q⟩
  · exact (op_inD hu).or op_in_seq pins s σ H x y v u Q I rx ry h
  · subst ey
    obtain rfl : u = Value.ref a := ry
    exact d_in (by omega) I g rx fun s' I' => ⟨.bl o.isSome, H, I', rfl, q⟩
theorem op_notInAll (hu : X.A.units + 65 < cLine) : OpR X (compareOp .NotIn) (rNotInAll X.K) := by
  intro pins s σ H x y v u Q I rx ry h
  rcases h with h | ⟨a, o, ey, g, q⟩
  · exact (op_notInD hu).or op_notIn_seq pins s σ H x y v u Q I rx ry h
  · subst ey
    obtain rfl : u = Value.ref a := ry
    exact d_notIn (by omega) I g rx fun s' I' => ⟨.bl (!o.isSome), H, I', rfl, q⟩
theorem pdAll_any (x : D) : ∀ ds : List D, ((pdAll ds).any fun z => PyData.eqv z (pd x)) = ds.any fun z => PyData.eqv (pd z) (pd x)
  | [] => rfl
  | d :: ds => by
    unfold pdAll
    rw [List.any_cons, List.any_cons, pdAll_any x ds]
theorem inV_ints (i : Int) : ∀ ns : List Int, inV (.int i) (ns.map V.int) = decide (i ∈ ns)
  | [] => rfl
  | n :: r => by
    have ih := inV_ints i r
    unfold inV at ih ⊢
    rw [List.map_cons, List.any_cons, ih]
    show ((n == i) || decide (i ∈ r)) = decide (i ∈ n :: r)
    by_cases h : n = i
    · subst h
      simp
    · have h2 : (n == i) = false := by simpa using h
      have h3 : ¬ i = n := fun z => h z.symm
      rw [h2]
      simp [h3]
theorem flat_ints (ns : List Int) : (ns.map V.int).all flatV = true := by
  rw [List.all_eq_true]
  intro v hv
  obtain ⟨n, _, e⟩ := List.mem_map.mp hv
  subst e
  rfl
theorem dp_lst {R : Rl} {F H : Hp} {K : PySem.W.Frag} {v : V} {ds : List D} {fr : Bool} (sub : ∀ a u, F a = some u → RdD H a u) (s : Sees R F H v (.lst ds) fr) (h : plain (.lst ds) = true) : Dp K H v (pd (.lst ds)) := by
  obtain ⟨p, vs, e1, e2, r⟩ := s
  subst e1
  unfold plain at h
  unfold pd
  exact .lst (.inl (.inl e2)) (RpAll.dp sub (r.mono fF_ex) h)
theorem shaped_lst {ds : List D} (h : okD (.lst ds) = true) : SeqAt.shaped (.list (pdAll ds)) = true := by
  have := shaped_pd h
  unfold pd at this
  exact this
theorem ok_in_core {R : Rl} {F H : Hp} {σ : L2.St} {Γ : En} {v : V} {d : D} {fr : Bool} {xv : V} {xd : D} {fx : Bool} {Qr : Bool → Prop} {Qt : V → Hp → Prop} (hK : R.K = X.K) (h : Hd R F H σ Γ) (rx : Rpf R F fx xv xd) (s : Sees R F H v d fr) (k : kIn xd d Qr) (eq : ∀ b, Qr b → Qt (.bl b) H) :
    rInAll X.K xv v H Qt := by
  cases d with
  | lst ds =>
    obtain ⟨⟨h1, h2⟩, q⟩ := k
    obtain ⟨p1, _⟩ := Bool.and_eq_true_iff.mp h1
    obtain ⟨p2, _⟩ := Bool.and_eq_true_iff.mp h2
    have dl : Dp X.K H v (.list (pdAll ds)) := by
      have z := dp_lst (K := X.K) h.sub s p2
      unfold pd at z
      exact z
    exact .inl (.inl ⟨pd xd, pdAll ds, Rp.dp h.sub (rx.mono fF_ex) p1, dl, shaped_pd h1, shaped_lst h2, by rw [pdAll_any]; exact eq _ q⟩)
  | tup ds =>
    obtain ⟨i, ns, e1, e2, q⟩ := k
    subst e1
    subst e2
    obtain ⟨p, vs, e3, e4, r⟩ := s
    have e5 := r.of_ints
    subst e5
    have e6 := rp_int rx
    subst e6
    exact .inl (.inr ⟨p, _, e3, .inr (.inl (.inl e4)), rfl, flat_ints ns, by rw [inV_ints]; exact eq _ q⟩)
  | dk kvs =>
    obtain ⟨p, vs, e3, e4, r⟩ := s
    unfold kIn at k
    cases q : keyOf xd with
    | none => simp only [q] at k
    | some ky =>
      simp only [q] at k
      have e5 := keyOf_rp q rx
      subst e5
      have vl := rpK_val (k := ky) r
      exact .inr ⟨p, valV vs ky, e3, .inl ⟨vs, ky, e4.rd, rfl, rfl⟩, by rw [vl.isSome]; exact eq _ k⟩
  | dt kvs =>
    obtain ⟨p, vs, e3, e4, r⟩ := s
    cases xd with
    | tup ks =>
      unfold kIn at k
      cases q : keysOf ks with
      | none => simp only [q] at k
      | some ky =>
        simp only [q] at k
        have hy : ∃ b ws, xv = .ref b ∧ H b = some (.tup ws) ∧ RpAll (fF R F fx) ws ks := by
          cases rx with
          | tup e r => exact ⟨_, _, rfl, RdD.tup (h.sub _ _ (fF_ex _ _ e)), r⟩
        obtain ⟨b, ws, e6, e7, rk⟩ := hy
        have ew := keysOf_rp q rk
        subst ew
        subst e6
        have vl := rpT_val (k := ky) r
        exact .inr ⟨p, valV vs ky, e3, .inr ⟨vs, ky, b, e4.rd, rfl, e7, rfl⟩, by rw [vl.isSome]; exact eq _ k⟩
    | _ => exact k.elim
  | _ => exact k.elim
theorem ok_notin_core {R : Rl} {F H : Hp} {σ : L2.St} {Γ : En} {v : V} {d : D} {fr : Bool} {xv : V} {xd : D} {fx : Bool} {Qr : Bool → Prop} {Qt : V → Hp → Prop} (hK : R.K = X.K) (h : Hd R F H σ Γ) (rx : Rpf R F fx xv xd) (s : Sees R F H v d fr) (k : kIn xd d Qr) (eq : ∀ b, Qr b → Qt (.bl (!b)) H) :
    rNotInAll X.K xv v H Qt := by
  have z := ok_in_core (X := X) (Qt := fun u _ => ∃ b, u = .bl b ∧ Qt (.bl (!b)) H) hK h rx s k fun b q => ⟨b, rfl, eq b q⟩
  rcases z with (⟨d1, ds, h1, h2, h3, h4, b, e, q⟩ | ⟨p, xs, h1, h2, h3, h4, b, e, q⟩) | ⟨a, o, h1, h2, b, e, q⟩
  · injection e with e'
    subst e'
    exact .inl (.inl ⟨d1, ds, h1, h2, h3, h4, q⟩)
  · injection e with e'
    subst e'
    exact .inl (.inr ⟨p, xs, h1, h2, h3, h4, q⟩)
  · injection e with e'
    subst e'
    exact .inr ⟨a, o, h1, h2, q⟩
theorem ok_in {ta tb : TE} (ka : SE X E ta wa) (kb : SV X E tb vb) : SE X E (tOp (rInAll X.K) ta tb) (wIn wa vb) := by
  intro R F H σ Γ ex Q Qt g h eq w
  refine ka R F H σ Γ ex _ _ g h (fun x F1 H1 Γ1 dx fx h1 x1 r1 w1 => kb R F1 H1 σ Γ1 ex _ _ g h1 (fun y F2 H2 Γ2 vw h2 x2 r2 w2 => ?_) w1) w
  cases l : lkV Γ2 vw with
  | none => simp only [l] at w2
  | some q =>
    obtain ⟨d, fr⟩ := q
    simp only [l] at w2
    exact ok_in_core g.K h2 (r1.mono (fF_mono x2.ex)) (vw_sees h2 r2 l) w2 fun b q => eq _ F2 H2 Γ2 _ true h2 (x1.trans x2) (.bl b) q
theorem ok_notin {ta tb : TE} (ka : SE X E ta wa) (kb : SV X E tb vb) : SE X E (tOp (rNotInAll X.K) ta tb) (wNotIn wa vb) := by
  intro R F H σ Γ ex Q Qt g h eq w
  refine ka R F H σ Γ ex _ _ g h (fun x F1 H1 Γ1 dx fx h1 x1 r1 w1 => kb R F1 H1 σ Γ1 ex _ _ g h1 (fun y F2 H2 Γ2 vw h2 x2 r2 w2 => ?_) w1) w
  cases l : lkV Γ2 vw with
  | none => simp only [l] at w2
  | some q =>
    obtain ⟨d, fr⟩ := q
    simp only [l] at w2
    exact ok_notin_core g.K h2 (r1.mono (fF_mono x2.ex)) (vw_sees h2 r2 l) w2 fun b q => eq _ F2 H2 Γ2 _ true h2 (x1.trans x2) (.bl (!b)) q
theorem pw_in (hu : X.A.units + 65 < cLine) (ha : PWE X E a wa) (hb : PWV X E b vb) (hm : behindInMarks .In b = false := by rfl) : PWE X E (.Compare a [.In] [b] pos) (wIn wa vb) := by
  obtain ⟨ta, pa, ka⟩ := ha
  obtain ⟨tb, pb, kb⟩ := hb
  exact ⟨_, pe_cmpR (op_inAll hu) pa pb hm, ok_in ka kb⟩
theorem pwt_in (hu : X.A.units + 65 < cLine) (ha : PWE X E a wa) (hb : PWV X E b vb) (hm : behindInMarks .In b = false := by rfl) : PWT X E (.Compare a [.In] [b] pos) (wTst (wIn wa vb)) := by
  obtain ⟨ta, pa, ka⟩ := ha
  obtain ⟨tb, pb, kb⟩ := hb
  exact ⟨_, pt_cmpR (op_inAll hu) pa pb hm, fun R F H σ Γ ex Q Qt g h eq w => ok_tst (ok_in ka kb) g h eq w⟩
theorem pw_notin (hu : X.A.units + 65 < cLine) (ha : PWE X E a wa) (hb : PWV X E b vb) (hm : behindInMarks .NotIn b = false := by rfl) : PWE X E (.Compare a [.NotIn] [b] pos) (wNotIn wa vb) := by
  obtain ⟨ta, pa, ka⟩ := ha
  obtain ⟨tb, pb, kb⟩ := hb
  exact ⟨_, pe_cmpR (op_notInAll hu) pa pb hm, ok_notin ka kb⟩
theorem pwt_notin (hu : X.A.units + 65 < cLine) (ha : PWE X E a wa) (hb : PWV X E b vb) (hm : behindInMarks .NotIn b = false := by rfl) : PWT X E (.Compare a [.NotIn] [b] pos) (wTst (wNotIn wa vb)) := by
  obtain ⟨ta, pa, ka⟩ := ha
  obtain ⟨tb, pb, kb⟩ := hb
  exact ⟨_, pt_cmpR (op_notInAll hu) pa pb hm, fun R F H σ Γ ex Q Qt g h eq w => ok_tst (ok_notin ka kb) g h eq w⟩
/-! ### == with what is looked into (waiting != []) -/
@[reducible] def wCmpV (k : K2) (va : WV) (wb : WE) : WE := fun ex Γ Q => va ex Γ fun vw Γ1 => wb ex Γ1 fun y fy Γ2 => match lkV Γ2 vw with
  | some (d, fr) => k d fr y fy fun z fz => Q z fz Γ2
  | none => False
theorem sees_dp {R : Rl} {F H : Hp} {K : PySem.W.Frag} {v : V} {d : D} {fr : Bool} (sub : ∀ a u, F a = some u → RdD H a u) (s : Sees R F H v d fr) (h : plain d = true) : Dp K H v (pd d) := by
  cases d with
  | lst ds => exact dp_lst sub s h
  | tup ds =>
    obtain ⟨p, vs, e1, e2, r⟩ := s
    subst e1
    unfold plain at h
    unfold pd
    exact .tup (.inl (.inl e2)) (RpAll.dp sub (r.mono fF_ex) h)
  | dk _ => unfold plain at h; cases h
  | dt _ => unfold plain at h; cases h
  | non => exact Rp.dp sub (Rp.mono fF_ex s) h
  | bl _ => exact Rp.dp sub (Rp.mono fF_ex s) h
  | int _ => exact Rp.dp sub (Rp.mono fF_ex s) h
  | str _ => exact Rp.dp sub (Rp.mono fF_ex s) h
  | opq _ => unfold plain at h; cases h
theorem ok_eqV {ta tb : TE} (ka : SV X E ta va) (kb : SE X E tb wb) : SE X E (tOp (fun x y H Q => rEq x y H Q ∨ rEqD X.K x y H Q) ta tb) (wCmpV kEq va wb) := by
  intro R F H σ Γ ex Q Qt g h eq w
  refine ka R F H σ Γ ex _ _ g h (fun x F1 H1 Γ1 vw h1 x1 r1 w1 => kb R F1 H1 σ Γ1 ex _ _ g h1 (fun y F2 H2 Γ2 dy fy h2 x2 r2 w2 => ?_) w1) w
  cases l : lkV Γ2 vw with
  | none => simp only [l] at w2
  | some q =>
    obtain ⟨d, fr⟩ := q
    simp only [l] at w2
    have s := vw_sees h2 (r1.mono x2.ex) l
    rcases kEq_cases w2 with ⟨i, j, e1, e2, q⟩ | ⟨⟨h3, h4⟩, q⟩
    · subst e1
      subst e2
      have z1 := rp_int (F := fF R F2 fr) s
      have z2 := rp_int r2
      subst z1
      subst z2
      refine .inl ⟨rfl, ?_⟩
      rw [decV_int]
      exact eq _ F2 H2 Γ2 _ true h2 (x1.trans x2) (.bl _) q
    · obtain ⟨p1, _⟩ := Bool.and_eq_true_iff.mp h3
      obtain ⟨p2, _⟩ := Bool.and_eq_true_iff.mp h4
      exact .inr ⟨pd d, pd dy, sees_dp h2.sub s p1, Rp.dp h2.sub (r2.mono fF_ex) p2, shaped_pd h3, shaped_pd h4, eq _ F2 H2 Γ2 _ true h2 (x1.trans x2) (.bl _) q⟩
theorem ok_neV {ta tb : TE} (ka : SV X E ta va) (kb : SE X E tb wb) : SE X E (tOp (fun x y H Q => rNe x y H Q ∨ rNeD X.K x y H Q) ta tb) (wCmpV kNe va wb) := by
  intro R F H σ Γ ex Q Qt g h eq w
  refine ka R F H σ Γ ex _ _ g h (fun x F1 H1 Γ1 vw h1 x1 r1 w1 => kb R F1 H1 σ Γ1 ex _ _ g h1 (fun y F2 H2 Γ2 dy fy h2 x2 r2 w2 => ?_) w1) w
  cases l : lkV Γ2 vw with
  | none => simp only [l] at w2
  | some q =>
    obtain ⟨d, fr⟩ := q
    simp only [l] at w2
    have s := vw_sees h2 (r1.mono x2.ex) l
    rcases kNe_cases w2 with ⟨i, j, e1, e2, q⟩ | ⟨⟨h3, h4⟩, q⟩
    · subst e1
      subst e2
      have z1 := rp_int (F := fF R F2 fr) s
      have z2 := rp_int r2
      subst z1
      subst z2
      refine .inl ⟨rfl, ?_⟩
      rw [decV_int]
      exact eq _ F2 H2 Γ2 _ true h2 (x1.trans x2) (.bl _) q
    · obtain ⟨p1, _⟩ := Bool.and_eq_true_iff.mp h3
      obtain ⟨p2, _⟩ := Bool.and_eq_true_iff.mp h4
      exact .inr ⟨pd d, pd dy, sees_dp h2.sub s p1, Rp.dp h2.sub (r2.mono fF_ex) p2, shaped_pd h3, shaped_pd h4, eq _ F2 H2 Γ2 _ true h2 (x1.trans x2) (.bl _) q⟩
theorem pw_eqV (hu : X.A.units + 64 < cLine) (ha : PWV X E a va) (hb : PWE X E b wb) : PWE X E (.Compare a [.Eq] [b] pos) (wCmpV kEq va wb) := by
  obtain ⟨ta, pa, ka⟩ := ha
  obtain ⟨tb, pb, kb⟩ := hb
  exact ⟨_, pe_cmpR (op_eq.or (op_eqD hu)) pa pb (nomark _), ok_eqV ka kb⟩
theorem pwt_eqV (hu : X.A.units + 64 < cLine) (ha : PWV X E a va) (hb : PWE X E b wb) : PWT X E (.Compare a [.Eq] [b] pos) (wTst (wCmpV kEq va wb)) := by
  obtain ⟨ta, pa, ka⟩ := ha
  obtain ⟨tb, pb, kb⟩ := hb
  exact ⟨_, pt_cmpR (op_eq.or (op_eqD hu)) pa pb (nomark _), fun R F H σ Γ ex Q Qt g h eq w => ok_tst (ok_eqV ka kb) g h eq w⟩
theorem pw_neV (hu : X.A.units + 64 < cLine) (ha : PWV X E a va) (hb : PWE X E b wb) : PWE X E (.Compare a [.NotEq] [b] pos) (wCmpV kNe va wb) := by
  obtain ⟨ta, pa, ka⟩ := ha
  obtain ⟨tb, pb, kb⟩ := hb
  exact ⟨_, pe_cmpR (op_ne.or (op_neD hu)) pa pb (nomark _), ok_neV ka kb⟩
theorem pwt_neV (hu : X.A.units + 64 < cLine) (ha : PWV X E a va) (hb : PWE X E b wb) : PWT X E (.Compare a [.NotEq] [b] pos) (wTst (wCmpV kNe va wb)) := by
  obtain ⟨ta, pa, ka⟩ := ha
  obtain ⟨tb, pb, kb⟩ := hb
  exact ⟨_, pt_cmpR (op_ne.or (op_neD hu)) pa pb (nomark _), fun R F H σ Γ ex Q Qt g h eq w => ok_tst (ok_neV ka kb) g h eq w⟩

/-! ### built-in calls of one thing that is looked into -/
abbrev K1 := D → Bool → (D → Bool → Prop) → Prop
def OC1 (X : Cx) (r : List V → Hp → VK → Prop) (k : K1) : Prop := ∀ (R : Rl) (F H : Hp) (σ : L2.St) (Γ : En) v d fr Q Qt, R.K = X.K → Hd R F H σ Γ → Sees R F H v d fr → KQ R F H σ Γ Q Qt → k d fr Q → r [v] H Qt
@[reducible] def wC1 (k : K1) (va : WV) : WE := fun ex Γ Q => va ex Γ fun vw Γ1 => match lkV Γ1 vw with
  | some (d, fr) => k d fr fun z fz => Q z fz Γ1
  | none => False
theorem ok_c1 {r : List V → Hp → VK → Prop} {k : K1} (hk : OC1 X r k) {ta : TE} (ka : SV X E ta va) : SE X E (tCB r (tCons ta tNil)) (wC1 k va) := by
  intro R F H σ Γ ex Q Qt g h eq w
  refine ka R F H σ Γ ex _ _ g h (fun x F1 H1 Γ1 vw h1 x1 r1 w1 => ?_) w
  cases l : lkV Γ1 vw with
  | none => simp only [l] at w1
  | some q =>
    obtain ⟨d, fr⟩ := q
    simp only [l] at w1
    exact hk R F1 H1 σ Γ1 x d fr _ Qt g.K h1 (vw_sees h1 r1 l) (fun v F2 H2 d fr h2 x2 r2 q => eq v F2 H2 Γ1 d fr h2 (x1.trans x2) r2 q) w1
theorem pw_b1 {id : String} {r : List V → Hp → VK → Prop} {k : K1} (o : CallR X (.builtin id) r ∧ OC1 X r k) (hm : X.mg x = none) (hv : bootBuiltins x = some (.builtin id)) (ha : PWV X E a va) (hg : Gl X x := by rfl) (hn : x ≠ "__name__" := by decide) (hdb : (x == ("__debug__" : Str)) = false := by decide)
    (he : starEach (a :: []) X.env = (false, eval a X.env) :: starEach [] X.env := by rfl) (hpl : (backTo pos (starEach [] X.env)).any (·.1) = false := by rfl) : PWE X E (.Call (.Name x p) [a] [] pos) (wC1 k va) := by
  obtain ⟨ta, pa, ka⟩ := ha
  exact ⟨_, pe_callB o.1 hg hm hv (pa_cons pa pa_nil he) hn hdb he hpl, ok_c1 o.2 ka⟩
theorem pw_t1 {T : String} {r : List V → Hp → VK → Prop} {k : K1} (o : CallR X (.type T) r ∧ OC1 X r k) (hm : X.mg x = none) (hv : bootBuiltins x = some (.type T)) (ha : PWV X E a va) (hg : Gl X x := by rfl) (hn : x ≠ "__name__" := by decide) (hdb : (x == ("__debug__" : Str)) = false := by decide)
    (he : starEach (a :: []) X.env = (false, eval a X.env) :: starEach [] X.env := by rfl) (hpl : (backTo pos (starEach [] X.env)).any (·.1) = false := by rfl) : PWE X E (.Call (.Name x p) [a] [] pos) (wC1 k va) := by
  obtain ⟨ta, pa, ka⟩ := ha
  exact ⟨_, pe_callTy o.1 hg hm hv (pa_cons pa pa_nil he) hn hdb he hpl, ok_c1 o.2 ka⟩
/-- len -/
@[reducible] def kLen : K1 := fun d _ Q => match d with
  | .lst ds => Q (.int ds.length) true
  | .tup ds => Q (.int ds.length) true
  | .dk ds => Q (.int ds.length) true
  | _ => False
theorem rpK_length {F : Hp} : ∀ {vs : List (Key × V)} {ds : List (Key × D)}, RpK F vs ds → vs.length = ds.length
  | _, _, .nil => rfl
  | _, _, .cons _ r => congrArg (· + 1) (rpK_length r)
def rLenAll (K : PySem.W.Frag) : List V → Hp → VK → Prop := fun xs H Q => (∃ p ys, xs = [.ref p] ∧ (SqL K H p ys ∨ SqT K H p ys) ∧ Q (.int ys.length) H) ∨ ∃ a kvs, xs = [V.ref a] ∧ Rd H a (.dK kvs) ∧ Q (.int kvs.length) H
theorem call_lenAll : CallR X (.builtin "len") (rLenAll X.K) := by
  refine CallR.or call_len_seq ?_
  intro pins s σ H xs us Q I r h
  obtain ⟨a, kvs, rfl, e, q⟩ := h
  obtain ⟨u, rfl, ru⟩ := vals1 r
  obtain rfl : u = Value.ref a := ru
  exact d_len I e fun t s' I' => ⟨.int kvs.length, H, I', ⟨t, rfl⟩, q⟩
theorem o_len : CallR X (.builtin "len") (rLenAll X.K) ∧ OC1 X (rLenAll X.K) kLen := by
  refine ⟨call_lenAll, ?_⟩
  intro R F H σ Γ v d fr Q Qt hK h s eq k
  cases d with
  | lst ds =>
    obtain ⟨p, vs, e1, e2, r⟩ := s
    subst e1
    exact .inl ⟨p, vs, rfl, .inl (.inl (.inl e2)), eq _ F H _ true h Nx.refl (by rw [r.length]; exact .int _) k⟩
  | tup ds =>
    obtain ⟨p, vs, e1, e2, r⟩ := s
    subst e1
    exact .inl ⟨p, vs, rfl, .inr (.inl (.inl e2)), eq _ F H _ true h Nx.refl (by rw [r.length]; exact .int _) k⟩
  | dk ds =>
    obtain ⟨p, vs, e1, e2, r⟩ := s
    subst e1
    exact .inr ⟨p, vs, rfl, e2.rd, eq _ F H _ true h Nx.refl (by rw [rpK_length r]; exact .int _) k⟩
  | _ => exact k.elim
/-- min, max of a list of whole numbers -/
@[reducible] def kMin : K1 := fun d _ Q => ∃ ns : List Int, d = .lst (ns.map .int) ∧ 0 < ns.length ∧ ∀ m, m ∈ ns → (∀ y, y ∈ ns → m ≤ y) → Q (.int m) true
@[reducible] def kMax : K1 := fun d _ Q => ∃ ns : List Int, d = .lst (ns.map .int) ∧ 0 < ns.length ∧ ∀ m, m ∈ ns → (∀ y, y ∈ ns → y ≤ m) → Q (.int m) true
theorem o_min (hc : X.calm = true) : CallR X (.builtin "min") (rMin X.K) ∧ OC1 X (rMin X.K) kMin := by
  refine ⟨cr_min hc, ?_⟩
  intro R F H σ Γ v d fr Q Qt hK h s eq k
  obtain ⟨ns, e, hl, q⟩ := k
  subst e
  obtain ⟨p, vs, e1, e2, r⟩ := s
  subst e1
  have e5 := r.of_ints
  subst e5
  exact ⟨p, ns, rfl, .inl (.inl e2), hl, fun m h1 h2 => eq _ F H _ true h Nx.refl (.int m) (q m h1 h2)⟩
theorem o_max (hc : X.calm = true) : CallR X (.builtin "max") (rMax X.K) ∧ OC1 X (rMax X.K) kMax := by
  refine ⟨cr_max hc, ?_⟩
  intro R F H σ Γ v d fr Q Qt hK h s eq k
  obtain ⟨ns, e, hl, q⟩ := k
  subst e
  obtain ⟨p, vs, e1, e2, r⟩ := s
  subst e1
  have e5 := r.of_ints
  subst e5
  exact ⟨p, ns, rfl, .inl (.inl e2), hl, fun m h1 h2 => eq _ F H _ true h Nx.refl (.int m) (q m h1 h2)⟩
@[reducible] def kSum : K1 := fun d _ Q => ∃ ns : List Int, d = .lst (ns.map .int) ∧ Q (.int ns.sum) true
theorem o_sum (hc : X.calm = true) : CallR X (.builtin "sum") (rSum X.K) ∧ OC1 X (rSum X.K) kSum := by
  refine ⟨cr_sum hc, ?_⟩
  intro R F H σ Γ v d fr Q Qt hK h s eq k
  obtain ⟨ns, e, q⟩ := k
  subst e
  obtain ⟨p, vs, e1, e2, r⟩ := s
  subst e1
  have e5 := r.of_ints
  subst e5
  exact ⟨p, ns, rfl, .inl (.inl e2), eq _ F H _ true h Nx.refl (.int _) q⟩
@[reducible] def kAll : K1 := fun d _ Q => ∃ ns : List Bool, d = .lst (ns.map .bl) ∧ Q (.bl (ns.all id)) true
@[reducible] def kAny : K1 := fun d _ Q => ∃ ns : List Bool, d = .lst (ns.map .bl) ∧ Q (.bl (ns.any id)) true
theorem o_all (hc : X.calm = true) : CallR X (.builtin "all") (rAll X.K) ∧ OC1 X (rAll X.K) kAll := by
  refine ⟨cr_all hc, ?_⟩
  intro R F H σ Γ v d fr Q Qt hK h s eq k
  obtain ⟨ns, e, q⟩ := k
  subst e
  obtain ⟨p, vs, e1, e2, r⟩ := s
  subst e1
  have e5 := r.of_bls
  subst e5
  exact ⟨p, ns, rfl, .inl (.inl e2), eq _ F H _ true h Nx.refl (.bl _) q⟩
theorem o_any (hc : X.calm = true) : CallR X (.builtin "any") (rAny X.K) ∧ OC1 X (rAny X.K) kAny := by
  refine ⟨cr_any hc, ?_⟩
  intro R F H σ Γ v d fr Q Qt hK h s eq k
  obtain ⟨ns, e, q⟩ := k
  subst e
  obtain ⟨p, vs, e1, e2, r⟩ := s
  subst e1
  have e5 := r.of_bls
  subst e5
  exact ⟨p, ns, rfl, .inl (.inl e2), eq _ F H _ true h Nx.refl (.bl _) q⟩
/-- int of a number, of a truth value -/
@[reducible] def kInt : K1 := fun d _ Q => match d with
  | .int i => Q (.int i) true
  | .bl b => Q (.int (if b then 1 else 0)) true
  | _ => False
theorem o_int : CallR X (.type "int") (fun xs H Q => (∃ i, xs = [.int i] ∧ Q (.int i) H) ∨ ∃ k, xs = [.bl k] ∧ Q (.int (if k then 1 else 0)) H) ∧ OC1 X (fun xs H Q => (∃ i, xs = [.int i] ∧ Q (.int i) H) ∨ ∃ k, xs = [.bl k] ∧ Q (.int (if k then 1 else 0)) H) kInt := by
  refine ⟨call_int1, ?_⟩
  intro R F H σ Γ v d fr Q Qt hK h s eq k
  cases d with
  | int i =>
    have e := rp_int (F := fF R F fr) s
    subst e
    exact .inl ⟨i, rfl, eq _ F H _ true h Nx.refl (.int _) k⟩
  | bl i =>
    have e := rp_bl (F := fF R F fr) s
    subst e
    exact .inr ⟨i, rfl, eq _ F H _ true h Nx.refl (.int _) k⟩
  | _ => exact k.elim
/-- list of a list, of a tuple: a new one -/
@[reducible] def kList : K1 := fun d fr Q => match d with
  | .lst ds => Q (.lst ds) fr
  | .tup ds => Q (.lst ds) fr
  | _ => False
def rListAll (K : PySem.W.Frag) : List V → Hp → VK → Prop := fun xs H Q => ∃ p ys, xs = [.ref p] ∧ (SqL K H p ys ∨ SqT K H p ys) ∧ ∀ l, H l = none → Q (.ref l) (upd H l (.lst ys))
theorem o_list : CallR X (.type "list") (rListAll X.K) ∧ OC1 X (rListAll X.K) kList := by
  refine ⟨call_list_of, ?_⟩
  intro R F H σ Γ v d fr Q Qt hK h s eq k
  cases d with
  | lst ds =>
    obtain ⟨p, vs, e1, e2, r⟩ := s
    subst e1
    refine ⟨p, vs, rfl, .inl (.inl (.inl e2)), fun l hl => ?_⟩
    obtain ⟨h2, x2, at_⟩ := h.newF (o := .lst vs) hl
    exact eq _ _ _ _ fr h2 x2 (.lst (at_ _) (r.mono (fF_mono x2.ex))) k
  | tup ds =>
    obtain ⟨p, vs, e1, e2, r⟩ := s
    subst e1
    refine ⟨p, vs, rfl, .inr (.inl (.inl e2)), fun l hl => ?_⟩
    obtain ⟨h2, x2, at_⟩ := h.newF (o := .lst vs) hl
    exact eq _ _ _ _ fr h2 x2 (.lst (at_ _) (r.mono (fF_mono x2.ex))) k
  | _ => exact k.elim
/-- tuple of a list: a new one -/
@[reducible] def kTuple : K1 := fun d fr Q => match d with
  | .lst ds => Q (.tup ds) fr
  | _ => False
def rTupleAll (K : PySem.W.Frag) : List V → Hp → VK → Prop := fun xs H Q => ∃ p ys, xs = [.ref p] ∧ ((SqL K H p ys ∧ ∀ l, H l = none → Q (.ref l) (upd H l (.tup ys))) ∨ (SqT K H p ys ∧ Q (.ref p) H))
theorem o_tuple : CallR X (.type "tuple") (rTupleAll X.K) ∧ OC1 X (rTupleAll X.K) kTuple := by
  refine ⟨call_tuple_of, ?_⟩
  intro R F H σ Γ v d fr Q Qt hK h s eq k
  cases d with
  | lst ds =>
    obtain ⟨p, vs, e1, e2, r⟩ := s
    subst e1
    refine ⟨p, vs, rfl, .inl ⟨.inl (.inl e2), fun l hl => ?_⟩⟩
    obtain ⟨h2, x2, at_⟩ := h.newF (o := .tup vs) hl
    exact eq _ _ _ _ fr h2 x2 (.tup (at_ _) (r.mono (fF_mono x2.ex))) k
  | _ => exact k.elim
/-! ### isinstance against a built-in class -/
@[reducible] def tyD : D → Option String
  | .non => some "NoneType"
  | .bl _ => some "bool"
  | .int _ => some "int"
  | .str _ => some "str"
  | .lst _ => some "list"
  | .tup _ => some "tuple"
  | .dk _ => some "dict"
  | .dt _ => none
  | .opq _ => none
def isiT (t c : String) : Bool := t == c || (t == "bool" && c == "int")
@[reducible] def wIsi (c : String) (va : WV) : WE := fun ex Γ Q => va ex Γ fun vw Γ1 => match lkV Γ1 vw with
  | some (d, _) => (match tyD d with
    | some t => Q (.bl (isiT t c)) true Γ1
    | none => False)
  | none => False
theorem sees_ty {R : Rl} {F H : Hp} {K : PySem.W.Frag} {v : V} {d : D} {fr : Bool} {t : String} (s : Sees R F H v d fr) (h : tyD d = some t) : TyX K H v (.type t) := by
  cases d with
  | non => cases h; cases (rp_non (F := fF R F fr) s); exact .base .non
  | bl b => cases h; cases (rp_bl (F := fF R F fr) s); exact .base (.bl _)
  | int b => cases h; cases (rp_int (F := fF R F fr) s); exact .base (.int _)
  | str b => cases h; cases (rp_str (F := fF R F fr) s); exact .base (.str _)
  | lst ds =>
    cases h
    obtain ⟨p, vs, e1, e2, r⟩ := s
    subst e1
    exact .base (.lst e2)
  | tup ds =>
    cases h
    obtain ⟨p, vs, e1, e2, r⟩ := s
    subst e1
    exact .base (.tup e2)
  | dk ds =>
    cases h
    obtain ⟨p, vs, e1, e2, r⟩ := s
    subst e1
    rcases e2 with e2 | ⟨_, o, e2⟩
    · exact .base (.dK e2)
    · exact .fDict e2
  | dt ds => cases h
  | opq _ => cases h
def KitAll (c : String) : Prop := ∀ (d : D) (t : String), tyD d = some t → kitB t c = some (isiT t c)
theorem kit_all {c : String} (h1 : kitB "NoneType" c = some (isiT "NoneType" c)) (h2 : kitB "bool" c = some (isiT "bool" c)) (h3 : kitB "int" c = some (isiT "int" c)) (h4 : kitB "str" c = some (isiT "str" c))
    (h5 : kitB "list" c = some (isiT "list" c)) (h6 : kitB "tuple" c = some (isiT "tuple" c)) (h7 : kitB "dict" c = some (isiT "dict" c)) : KitAll c := fun d t h => by
  cases d <;> first | (cases h; assumption) | cases h
theorem kit_int : KitAll "int" := kit_all (by decide +kernel) (by decide +kernel) (by decide +kernel) (by decide +kernel) (by decide +kernel) (by decide +kernel) (by decide +kernel)
theorem kit_bool : KitAll "bool" := kit_all (by decide +kernel) (by decide +kernel) (by decide +kernel) (by decide +kernel) (by decide +kernel) (by decide +kernel) (by decide +kernel)
theorem kit_list : KitAll "list" := kit_all (by decide +kernel) (by decide +kernel) (by decide +kernel) (by decide +kernel) (by decide +kernel) (by decide +kernel) (by decide +kernel)
theorem pw_isi {T : String} {y : Str} {py : Pos} (kt : KitAll T) (hm : X.mg "isinstance" = none) (hy : X.mg y = none) (hv : bootBuiltins "isinstance" = some (.builtin "isinstance")) (hvy : bootBuiltins y = some (.type T)) (ha : PWV X E a va)
    (hg : Gl X "isinstance" := by rfl) (hgy : Gl X y := by rfl) (hny : y ≠ "__name__" := by decide) (hdy : (y == ("__debug__" : Str)) = false := by decide)
    (he : starEach (a :: [.Name y py]) X.env = (false, eval a X.env) :: starEach [.Name y py] X.env := by rfl) (he2 : starEach ((.Name y py) :: []) X.env = (false, eval (.Name y py) X.env) :: starEach [] X.env := by rfl) (hpl : (backTo pos (starEach [.Name y py] X.env)).any (·.1) = false := by rfl) :
    PWE X E (.Call (.Name "isinstance" p) [a, .Name y py] [] pos) (wIsi T va) := by
  obtain ⟨ta, pa, ka⟩ := ha
  refine ⟨_, pe_callB call_isi hg hm hv (pa_cons pa (pa_cons (pe_bltn (v := .ty T) hgy hy hvy rfl hny hdy) pa_nil he2) he) (by decide) (by decide) he hpl, fun R F H σ Γ ex Q Qt g h eq w => ?_⟩
  refine ka R F H σ Γ ex _ _ g h (fun x F1 H1 Γ1 vw h1 x1 r1 w1 => ?_) w
  cases l : lkV Γ1 vw with
  | none => simp only [l] at w1
  | some q =>
    obtain ⟨d, fr⟩ := q
    simp only [l] at w1
    cases t : tyD d with
    | none => simp only [t] at w1
    | some tt =>
      simp only [t] at w1
      exact ⟨x, .ty T, .type tt, .type T, isiT tt T, rfl, .ty T, sees_ty (vw_sees h1 r1 l) t, kit_ty (kt d tt t), eq _ F1 H1 Γ1 _ true h1 x1 (.bl _) w1⟩

/-! ### calls of the text's own defs -/
/-- what a call asks and gives, by data: the arguments, what is wanted of the value, of an exception -/
abbrev FS := List D → (D → Bool → Prop) → EX → Prop
/-- .. as a promise over the heap -/
def spF (mg : Str → Option Value) (fs : FS) : Sp := fun vs H Qv Ev => ∃ (F : Hp) (ds : List D) (Q : D → Bool → Prop) (ex : EX), (∀ a u, F a = some u → RdD H a u) ∧ RpAll F vs ds ∧ fs ds Q ex ∧
  (∀ v F' H' d fr, Ex H H' → Ex F F' → (∀ a u, F' a = some u → RdD H' a u) → (∀ a u, F' a = some u → F a = some u ∨ H a = none) → Rp (match fr with | true => nw H F' | false => F') v d → Q d fr → Qv v H') ∧
  ∀ (c : Str) (C dd : Addr) (v : V) (d : D) (F' H' : Hp), mg c = some (.ref C) → ex c d → Ex H H' → Ex F F' → (∀ a u, F' a = some u → RdD H' a u) → Rp F' v d → H' dd = some (.xd [(fieldOf c, v)]) → Ev (.ref C) (some dd) H'
@[reducible] def wCall (fs : FS) (wr : WA) : WE := fun ex Γ Q => wr ex Γ fun ds Γ1 => fs (ds.map (·.1)) (fun d fr => Q d fr Γ1) ex
theorem RpL.plain {R : Rl} {F : Hp} : ∀ {vs : List V} {ds : List (D × Bool)}, RpL R F vs ds → RpAll F vs (ds.map (·.1))
  | _, _, .nil => .nil
  | _, _, .cons h r => .cons (h.mono fF_ex) r.plain
/-- behind a call that adds things -/
theorem Hd.called {R : Rl} {F F' H H' : Hp} {σ : L2.St} {Γ : En} (h : Hd R F H σ Γ) (xH : Ex H H') (xF : Ex F F') (sub : ∀ a u, F' a = some u → RdD H' a u) (new : ∀ a u, F' a = some u → F a = some u ∨ H a = none) {v : V} {d : D} {fr : Bool}
    (r : Rp (match fr with | true => nw H F' | false => F') v d) : Hd R F' H' σ Γ ∧ Rpf R F' fr v d := by
  refine ⟨h.grow xH xF sub new, ?_⟩
  cases fr with
  | false => exact r
  | true =>
    refine Rp.mono (fun a o e => ?_) r
    have r2 : H a = none := by
      cases q : H a with
      | none => rfl
      | some u =>
        have z : nw H F' a = some o := e
        unfold nw at z
        rw [q] at z
        cases z
    have e2 : F' a = some o := nw_ex _ _ e
    rcases h.h0 r2 with q | q
    · show nw R.H0 F' a = some o
      rw [nw_at q]
      exact e2
    · exact absurd r2 (h.iof a q).2.2
theorem ok_call {fs : FS} {wr : WA} {t : TA} (kt : SA X E t wr) : SE X E (tCall (spF X.mg fs) [] E t) (wCall fs wr) := by
  intro R F H σ Γ ex Q Qt g h eq w
  refine kt R F H σ Γ ex _ _ g h (fun vs F1 H1 Γ1 ds h1 x1 r1 w1 => ?_) w
  show spF X.mg fs (vs ++ []) H1 Qt E
  rw [List.append_nil]
  refine ⟨F1, ds.map (·.1), _, ex, h1.sub, r1.plain, w1, fun v F2 H2 d fr xH xF sub new r q => ?_, fun c C dd v d F2 H2 hm hex xH xF sub r hd => ?_⟩
  · obtain ⟨h2, r2⟩ := h1.called xH xF sub new r
    exact eq v F2 H2 Γ1 d fr h2 (x1.trans (.grow xF xH new)) r2 q
  · exact g.lk c C dd v d F2 H2 hm hex (fun a o e n => xH a o (h1.base a o e n)) (fun a o e => xF a o (h1.f0 a o e)) sub r hd
theorem pw_call {k : Nat} {f : Addr} {fd : FuncData} {ps : List Str} {fs : FS} {wr : WA} (Fn : FnG X.prog X.w X.K X.mg X.base k f fd ps (spF X.mg fs)) (hgd : X.A.guards = some []) (hr : Room k X.A) (hm : X.mg x = some (.ref f)) (hk : PySem.W.keepIn X.K (.ref f) = true) (hb : Binds X.K fd ps [])
    (hx : Passes (L2.CX X.prog X.w) X E) (ha : PWA X E (e :: es) wr) (hg : Gl X x := by rfl) (hdb : (x == ("__debug__" : Str)) = false := by decide) (he : starEach (e :: es) X.env = (false, eval e X.env) :: starEach es X.env := by rfl) (hpl : (backTo pos (starEach es X.env)).any (·.1) = false := by rfl) :
    PWE X E (.Call (.Name x p) (e :: es) [] pos) (wCall fs wr) := by
  obtain ⟨t, pt, kt⟩ := ha
  exact ⟨_, pe_fnG Fn hgd hr hm hk hb hx pt hg hdb he hpl, ok_call kt⟩
end
end Y

/-! Y: part 7: targets, statements. -/
namespace Y
open PySem L2

/-- what is wanted behind a statement, by data -/
structure DE where
  nx : En → Prop
  rt : D → Bool → En → Prop
  bk : En → Prop := fun _ => False
  ct : En → Prop := fun _ => False
  xe : EX := fun _ _ => False
abbrev WS := DE → En → Prop
structure Sim (R : Rl) (F : Hp) (P : DE) (T : Ends) : Prop where
  nx : ∀ F' H' σ' Γ', Hd R F' H' σ' Γ' → Ex F F' → P.nx Γ' → T.nx σ' H'
  rt : ∀ v F' H' σ' Γ' d fr, Hd R F' H' σ' Γ' → Ex F F' → Rpf R F' fr v d → P.rt d fr Γ' → T.rt v H'
  bk : ∀ F' H' σ' Γ', Hd R F' H' σ' Γ' → Ex F F' → P.bk Γ' → T.bk σ' H'
  ct : ∀ F' H' σ' Γ', Hd R F' H' σ' Γ' → Ex F F' → P.ct Γ' → T.ct σ' H'
theorem Sim.mono {R : Rl} {F F' : Hp} {P : DE} {T : Ends} (s : Sim R F P T) (x : Ex F F') : Sim R F' P T :=
  ⟨fun G H' σ' Γ' h y => s.nx G H' σ' Γ' h (x.trans y), fun v G H' σ' Γ' d fr h y => s.rt v G H' σ' Γ' d fr h (x.trans y), fun G H' σ' Γ' h y => s.bk G H' σ' Γ' h (x.trans y), fun G H' σ' Γ' h y => s.ct G H' σ' Γ' h (x.trans y)⟩
theorem Sim.seq {R : Rl} {F : Hp} {P : DE} {T : Ends} (s : Sim R F P T) {n : En → Prop} {m : L2.St → Hp → Prop} (h : ∀ F' H' σ' Γ', Hd R F' H' σ' Γ' → Ex F F' → n Γ' → m σ' H') : Sim R F { P with nx := n } { T with nx := m } :=
  ⟨h, s.rt, s.bk, s.ct⟩
def SS (X : Cx) (E : XK) (ts : TS) (w : WS) : Prop := ∀ (R : Rl) (F H : Hp) (σ : L2.St) (Γ : En) (P : DE) (T : Ends), Go X R E P.xe → Hd R F H σ Γ → Sim R F P T → w P Γ → ts T σ H
def PWS (X : Cx) (E : XK) (s : Stmt) (w : WS) : Prop := ∃ ts : TS, PS X s ts ∧ SS X E ts w
def PWSs (X : Cx) (E : XK) (s : List Stmt) (w : WS) : Prop := ∃ ts : TS, PSs X s ts ∧ SS X E ts w

section
variable {R : Rl} {F H : Hp} {σ : L2.St} {Γ : En}
theorem st_over : ∀ {Γ : En} {i : Nat} {s : Option Sl}, Γ.length ≤ i → st Γ i s = Γ
  | [], _, _, _ => rfl
  | _ :: _, 0, _, h => absurd h (by simp)
  | a :: r, i + 1, s, h => by
    show a :: st r i s = a :: r
    rw [st_over (Γ := r) (i := i) (s := s) (by simpa using h)]
theorem Hd.put (h : Hd R F H σ Γ) {i : Nat} {v : V} {s : Sl} (ok : SlOk R F H v s) (hs : owny s = false) : Hd R F H (σ.set i (some v)) (st Γ i (some s)) := by
  by_cases hi : i < Γ.length
  · exact h.set ok hs hi
  · rw [st_over (by omega), List.set_eq_of_length_le (by rw [← h.len]; omega)]
    exact h
theorem Hd.putOwn (h : Hd R F H σ Γ) {i : Nat} {p : Addr} {o : D} {fr : Bool} (ok : SlOk R F H (.ref p) (.own o fr)) (hp : ¬ Ow σ Γ p) : Hd R F H (σ.set i (some (.ref p))) (st Γ i (some (.own o fr))) := by
  by_cases hi : i < Γ.length
  · exact h.setOwn ok (fun j t e o q => hp ⟨j, t, e, o, q⟩) hi
  · rw [st_over (by omega), List.set_eq_of_length_le (by rw [← h.len]; omega)]
    exact h
end

/-! ### targets -/
abbrev WG := D → Bool → En → (En → Prop) → Prop
abbrev WGs := List D → Bool → En → (En → Prop) → Prop
/-- what a store leaves: the slots at sl may be others, no new thing of one's own -/
structure Stored (sl : List Nat) (σ : L2.St) (Γ : En) (σ' : L2.St) (Γ' : En) : Prop where
  len : σ'.length = σ.length
  out : ∀ j, j ∉ sl → σ'[j]? = σ[j]?
  ow : ∀ a, Ow σ' Γ' a → Ow σ Γ a
theorem Stored.trans {sl sl' : List Nat} {σ σ1 σ2 : L2.St} {Γ Γ1 Γ2 : En} (a : Stored sl σ Γ σ1 Γ1) (b : Stored sl' σ1 Γ1 σ2 Γ2) : Stored (sl ++ sl') σ Γ σ2 Γ2 :=
  ⟨b.len.trans a.len, fun j hj => by
    rw [List.mem_append, not_or] at hj
    rw [b.out j hj.2, a.out j hj.1], fun x z => a.ow x (b.ow x z)⟩
def SG (X : Cx) (sl : List Nat) (g : TG) (w : WG) : Prop := ∀ (R : Rl) (F H : Hp) (σ : L2.St) (Γ : En) v d fr Q (Qt : L2.St → Hp → Prop), R.K = X.K → Hd R F H σ Γ → Rpf R F fr v d →
  (∀ σ' Γ', Hd R F H σ' Γ' → Stored sl σ Γ σ' Γ' → Q Γ' → Qt σ' H) → w d fr Γ Q → g v σ H Qt
def SGs (X : Cx) (sl : List Nat) (g : TGs) (w : WGs) : Prop := ∀ (R : Rl) (F H : Hp) (σ : L2.St) (Γ : En) vs ds fr Q (Qt : L2.St → Hp → Prop), R.K = X.K → Hd R F H σ Γ → RpAll (fF R F fr) vs ds →
  (∀ σ' Γ', Hd R F H σ' Γ' → Stored sl σ Γ σ' Γ' → Q Γ' → Qt σ' H) → w ds fr Γ Q → g vs σ H Qt
def PWG (X : Cx) (sl : List Nat) (tg : Expr) (w : WG) : Prop := ∃ g, PG X tg g ∧ SG X sl g w
def PWGs (X : Cx) (sl : List Nat) (tg : List Expr) (w : WGs) : Prop := ∃ g, PGs X tg g ∧ SGs X sl g w
section
variable {X : Cx} {E : XK} {e a b c : Expr} {es : List Expr} {pos p : Pos} {x : Str} {wa wb wc : WE} {va vb : WV}
@[reducible] def wName (i : Nat) : WG := fun d fr Γ Q => Q (st Γ i (some (.dat d fr)))
theorem ow_put {σ : L2.St} {Γ : En} {i : Nat} {v : V} {s : Sl} (hs : owny s = false) {q : Addr} (hl : Γ.length = σ.length) (h : Ow (σ.set i (some v)) (st Γ i (some s)) q) : Ow σ Γ q := by
  obtain ⟨j, t, e1, e2, e3⟩ := h
  by_cases hj : j = i
  · subst hj
    by_cases hl : j < Γ.length
    · rw [gt_st_same hl] at e1
      cases e1
      rw [hs] at e2
      cases e2
    · have := gt_lt e1
      rw [st_length] at this
      exact absurd this hl
  · rw [gt_st_ne hj] at e1
    rw [List.getElem?_set_ne (Ne.symm hj)] at e3
    exact ⟨j, t, e1, e2, e3⟩
theorem pg_nm (i : Nat) (hN : X.N.Nodup) (hx : Loc X.env.scope x := by first | exact Or.inl rfl | exact Or.inr rfl) (hi : X.N[i]? = some x := by rfl) (hf : X.fn x = true ∨ X.env.scope.names.lookup x = some .local := by first | exact .inl rfl | exact .inr rfl | assumption) : PWG X [i] (.Name x pos) (wName i) := by
  refine ⟨gName i, pg_name hN hi hx hf, fun R F H σ Γ v d fr Q Qt hK h r k w => ?_⟩
  refine k _ _ (h.put (i := i) (s := .dat d fr) r rfl) ⟨by rw [List.length_set], fun j hj => ?_, fun a z => ow_put rfl h.len z⟩ w
  rw [List.getElem?_set_ne (fun z => hj (by simp [z]))]
@[reducible] def wgNil : WGs := fun ds _ Γ Q => match ds with
  | [] => Q Γ
  | _ => False
@[reducible] def wgCons (w : WG) (ws : WGs) : WGs := fun ds fr Γ Q => match ds with
  | d :: r => w d fr Γ fun Γ1 => ws r fr Γ1 Q
  | [] => False
theorem pwg_nil : PWGs X [] [] wgNil := by
  refine ⟨_, pgs_nil, fun R F H σ Γ vs ds fr Q Qt hK h r k w => ?_⟩
  cases r with
  | nil => exact ⟨rfl, k σ Γ h ⟨rfl, fun _ _ => rfl, fun _ z => z⟩ w⟩
  | cons _ _ => exact w.elim
theorem pwg_cons {sl sl' : List Nat} {w : WG} {ws : WGs} (h1 : PWG X sl e w) (h2 : PWGs X sl' es ws) (hs : (assignEach (e :: es) X.env).map (·.2) = assign e X.env :: (assignEach es X.env).map (·.2) := by rfl) : PWGs X (sl ++ sl') (e :: es) (wgCons w ws) := by
  obtain ⟨g, pg, kg⟩ := h1
  obtain ⟨u, pu, ku⟩ := h2
  refine ⟨_, pgs_cons pg pu hs, fun R F H σ Γ vs ds fr Q Qt hK h r k w => ?_⟩
  cases r with
  | nil => exact w.elim
  | cons a r =>
    refine ⟨_, _, rfl, kg R F H σ Γ _ _ fr _ _ hK h a (fun σ1 Γ1 h1 s1 w1 => ku R F H σ1 Γ1 _ _ fr _ _ hK h1 r (fun σ2 Γ2 h2 s2 q => k σ2 Γ2 h2 (s1.trans s2) q) w1) w⟩
/-- (a, b, ..) : a tuple or a list of that length -/
@[reducible] def wTgt (ws : WGs) : WG := fun d fr Γ Q => match d with
  | .tup ds => ws ds fr Γ Q
  | .lst ds => ws ds fr Γ Q
  | _ => False
theorem PG.or {tg : Expr} {g g' : TG} (h : PG X tg g) (h' : PG X tg g') : PG X tg (fun v σ H Q => g v σ H Q ∨ g' v σ H Q) :=
  ⟨fun pins s σ H v u Q I r q => by
    rcases q with q | q
    · exact h.run pins s σ H v u Q I r q
    · exact h'.run pins s σ H v u Q I r q⟩
theorem pg_tp {k : Nat} {sl : List Nat} {ws : WGs} {n : Nat} (hc : X.calm = true) (h : PWGs X sl es ws) (hlen : ∀ ds fr Γ Q, ws ds fr Γ Q → ds.length = n) (hn : (assignEach es X.env).length = n := by rfl) (hst : (assignEach es X.env).findIdx? (·.1) = none := by rfl) : PWG X sl (.Tuple es k pos) (wTgt ws) := by
  obtain ⟨t, pt, kt⟩ := h
  refine ⟨_, PG.or (pg_tup hc pt hn hst) (pg_unl hc pt hn hst), fun R F H σ Γ v d fr Q Qt hK h r q w => ?_⟩
  cases d with
  | tup ds =>
    have l := hlen _ _ _ _ w
    obtain ⟨p, vs, e1, e2, ra⟩ : Sees R F H v (.tup ds) fr := Sees.of h.sub r
    subst e1
    exact .inl ⟨p, vs, rfl, .inl (.inl e2), by rw [ra.length, l], kt R F H σ Γ _ _ fr _ _ hK h ra q w⟩
  | lst ds =>
    have l := hlen _ _ _ _ w
    obtain ⟨p, vs, e1, e2, ra⟩ : Sees R F H v (.lst ds) fr := Sees.of h.sub r
    subst e1
    exact .inr ⟨p, vs, rfl, .inl (.inl e2), by rw [ra.length, l], kt R F H σ Γ _ _ fr _ _ hK h ra q w⟩
  | _ => exact w.elim
theorem len_nil : ∀ ds fr Γ Q, wgNil ds fr Γ Q → ds.length = 0 := fun ds fr Γ Q w => by
  cases ds with
  | nil => rfl
  | cons _ _ => exact w.elim
theorem len_name {i : Nat} {ws : WGs} {n : Nat} (h : ∀ ds fr Γ Q, ws ds fr Γ Q → ds.length = n) : ∀ ds fr Γ Q, wgCons (wName i) ws ds fr Γ Q → ds.length = n + 1 := fun ds fr Γ Q w => by
  cases ds with
  | nil => exact w.elim
  | cons d r => exact congrArg (· + 1) (h r fr _ Q w)

/-! ### small statements -/
variable {s : Stmt} {rest : List Stmt} {wt wu : WS}
@[reducible] def wNext : WS := fun P Γ => P.nx Γ
@[reducible] def wSeq (t u : WS) : WS := fun P Γ => t { P with nx := u P } Γ
theorem pws_nil : PWSs X E [] wNext := ⟨_, pss_nil, fun R F H σ Γ P T g h s w => s.nx F H σ Γ h (Ex.refl F) w⟩
theorem pws_cons (h1 : PWS X E s wt) (h2 : PWSs X E rest wu) : PWSs X E (s :: rest) (wSeq wt wu) := by
  obtain ⟨t, pt, kt⟩ := h1
  obtain ⟨u, pu, ku⟩ := h2
  exact ⟨_, pss_cons pt pu, fun R F H σ Γ P T g h s w => kt R F H σ Γ { P with nx := wu P } { T with nx := u T } g h (s.seq fun F' H' σ' Γ' h' x q => ku R F' H' σ' Γ' P T g h' (s.mono x) q) w⟩
theorem pws_one (h1 : PWS X E s wt) : PWSs X E [s] wt := by
  obtain ⟨t, pt, kt⟩ := h1
  exact ⟨_, pss_one pt, kt⟩
theorem pws_pass : PWS X E (.Pass pos) wNext := ⟨_, ps_pass, fun R F H σ Γ P T g h s w => s.nx F H σ Γ h (Ex.refl F) w⟩
@[reducible] def wBreak : WS := fun P Γ => P.bk Γ
@[reducible] def wCont : WS := fun P Γ => P.ct Γ
theorem pws_break : PWS X E (.Break pos) wBreak := ⟨_, ps_break, fun R F H σ Γ P T g h s w => s.bk F H σ Γ h (Ex.refl F) w⟩
theorem pws_cont : PWS X E (.Continue pos) wCont := ⟨_, ps_continue, fun R F H σ Γ P T g h s w => s.ct F H σ Γ h (Ex.refl F) w⟩
@[reducible] def wNever : WS := fun _ _ => False
theorem pws_never : PWS X E s wNever := ⟨_, ps_never, fun R F H σ Γ P T g h s w => w⟩
@[reducible] def wRet (we : WE) : WS := fun P Γ => we P.xe Γ P.rt
theorem pws_ret (h : PWE X E e wa) : PWS X E (.Return (some e) pos) (wRet wa) := by
  obtain ⟨t, pt, kt⟩ := h
  exact ⟨_, ps_ret pt, fun R F H σ Γ P T g h s w => kt R F H σ Γ P.xe _ _ g h (fun v F' H' Γ' d fr h' x r q => s.rt v F' H' σ Γ' d fr h' x.ex r q) w⟩
@[reducible] def wRetN : WS := fun P Γ => P.rt .non true Γ
theorem pws_retN : PWS X E (.Return none pos) wRetN := ⟨_, ps_retN, fun R F H σ Γ P T g h s w => s.rt .non F H σ Γ .non true h (Ex.refl F) .non w⟩
@[reducible] def wDrop (we : WE) : WS := fun P Γ => we P.xe Γ fun _ _ Γ' => P.nx Γ'
theorem pws_expr (h : PWE X E e wa) (hs : swapsWith e none pos.line X.env = pure false := by rfl) : PWS X E (.Expr e pos) (wDrop wa) := by
  obtain ⟨t, pt, kt⟩ := h
  exact ⟨_, ps_expr pt hs, fun R F H σ Γ P T g h s w => kt R F H σ Γ P.xe _ _ g h (fun v F' H' Γ' d fr h' x r q => s.nx F' H' σ Γ' h' x.ex q) w⟩
@[reducible] def wIfS (c : WT) (t u : WS) : WS := fun P Γ => c P.xe Γ fun b Γ1 => ifB b (t P Γ1) (u P Γ1)
theorem pws_if {as bs : List Stmt} {wcn : WT} (hc : PWT X E c wcn) (ha : PWSs X E as wt) (hb : PWSs X E bs wu) : PWS X E (.If c as bs pos) (wIfS wcn wt wu) := by
  obtain ⟨tc, pc, kc⟩ := hc
  obtain ⟨t, pt, kt⟩ := ha
  obtain ⟨u, pu, ku⟩ := hb
  refine ⟨_, ps_if pc pt pu, fun R F H σ Γ P T g h s w => kc R F H σ Γ P.xe _ _ g h (fun b F' H' Γ' h' x q => ?_) w⟩
  cases b with
  | true =>
    rw [if_pos rfl]
    exact kt R F' H' σ Γ' P T g h' (s.mono x.ex) q
  | false =>
    rw [if_neg Bool.false_ne_true]
    exact ku R F' H' σ Γ' P T g h' (s.mono x.ex) q
/-- name = e -/
@[reducible] def wSet (i : Nat) (we : WE) : WS := fun P Γ => we P.xe Γ fun d fr Γ' => P.nx (st Γ' i (some (.dat d fr)))
theorem pws_set {py : Pos} (i : Nat) (h : PWE X E e wa) (hN : X.N.Nodup) (hs : swapsWith e (some (.Name x py)) pos.line X.env = pure false := by rfl) (hi : X.N[i]? = some x := by rfl) (hx : Loc X.env.scope x := by first | exact Or.inl rfl | exact Or.inr rfl) (hf : X.fn x = true ∨ X.env.scope.names.lookup x = some .local := by first | exact .inl rfl | exact .inr rfl | assumption) :
    PWS X E (.Assign [.Name x py] e pos) (wSet i wa) := by
  obtain ⟨t, pt, kt⟩ := h
  exact ⟨_, ps_set hN hi hx pt hs hf, fun R F H σ Γ P T g h s w => kt R F H σ Γ P.xe _ _ g h (fun v F' H' Γ' d fr h' x r q => s.nx F' H' _ _ (h'.put (i := i) (s := .dat d fr) r rfl) x.ex q) w⟩
/-- target = e -/
@[reducible] def wAsg (we : WE) (wg : WG) : WS := fun P Γ => we P.xe Γ fun d fr Γ' => wg d fr Γ' P.nx
theorem pws_asg {tg : Expr} {sl : List Nat} {wg : WG} (h : PWE X E e wa) (hg : PWG X sl tg wg) (hs : swapsWithSole [tg] e pos.line X.env = pure false := by rfl) (hw : swappedStores [tg] e X.env = pure none := by rfl)
    (h1 : (assignEach [tg] X.env).map (·.2) = [assign tg X.env] := by rfl) : PWS X E (.Assign [tg] e pos) (wAsg wa wg) := by
  obtain ⟨t, pt, kt⟩ := h
  obtain ⟨g, pg, kg⟩ := hg
  exact ⟨_, ps_asg pt pg hs hw h1, fun R F H σ Γ P T gg h s w => kt R F H σ Γ P.xe _ _ gg h (fun v F' H' Γ' d fr h' x r q => kg R F' H' σ Γ' v d fr _ _ gg.K h' r (fun σ2 Γ2 h2 _ q2 => s.nx F' H' σ2 Γ2 h2 x.ex q2) q) w⟩
end
end Y

/-! Y: part 8: things of one's own: made, changed. -/
namespace Y
open PySem L2

/-! ### expressions that make a container of one's own -/
def NQ (R : Rl) (F H : Hp) (σ : L2.St) (Γ : En) (Q : D → Bool → En → Prop) (Qt : VK) : Prop := ∀ p F' H' Γ' o fr, Hd R F' H' σ Γ' → Nx σ F H Γ F' H' Γ' → H p = none → SlOk R F' H' (.ref p) (.own o fr) → ¬ Ow σ Γ' p → Q o fr Γ' → Qt (.ref p) H'
def SN (X : Cx) (E : XK) (te : TE) (w : WE) : Prop := ∀ (R : Rl) (F H : Hp) (σ : L2.St) (Γ : En) (ex : EX) Q Qt, Go X R E ex → Hd R F H σ Γ → NQ R F H σ Γ Q Qt → w ex Γ Q → te σ H Qt
def PWN (X : Cx) (E : XK) (e : Expr) (w : WE) : Prop := ∃ te : TE, PE X e te ∧ SN X E te w
section
variable {X : Cx} {E : XK} {e a b c : Expr} {es : List Expr} {pos p : Pos} {x : Str} {wa wb wc : WE} {va vb : WV}
/-- a new tracked thing that is not frozen -/
theorem Hd.newO {R : Rl} {F H : Hp} {σ : L2.St} {Γ : En} (h : Hd R F H σ Γ) {p : Addr} {o : HO} (hp : H p = none) : Hd R F (upd H p o) σ Γ ∧ F p = none ∧ R.H0 p = none ∧ ¬ Ow σ Γ p := by
  have hF := h.fNone hp
  refine ⟨h.grow (Ex.new hp) (Ex.refl F) (fun a u e => (h.sub a u e).ex (Ex.new hp)) (fun a u e => .inl e), hF, ?_, ?_⟩
  · rcases h.h0 hp with q | q
    · exact q
    · exact absurd hp (h.iof p q).2.2
  · rintro ⟨j, t, e1, e2, e3⟩
    obtain ⟨v, e4, ok⟩ := h.sl j t e1
    rw [e3] at e4
    cases e4
    cases t with
    | own o fr =>
      obtain ⟨q, z1, _, _, t⟩ := ok
      cases z1
      obtain ⟨u, z⟩ := t.there
      rw [hp] at z; cases z
    | ino o =>
      obtain ⟨q, z1, _, t⟩ := ok
      cases z1
      obtain ⟨u, z⟩ := t.there
      rw [hp] at z; cases z
    | _ => cases e2
theorem Nx.newO {σ : L2.St} {F H F1 H1 : Hp} {Γ Γ1 : En} (x : Nx σ F H Γ F1 H1 Γ1) {p : Addr} {o : HO} (hp : H1 p = none) : Nx σ F H Γ F1 (upd H1 p o) Γ1 := x.trans (.grow (Ex.refl _) (Ex.new hp) fun a u e => .inl e)
theorem Nx.was {σ : L2.St} {F H F1 H1 : Hp} {Γ Γ1 : En} (x : Nx σ F H Γ F1 H1 Γ1) {p : Addr} (hp : H1 p = none) : H p = none := by
  cases z : H p with
  | none => rfl
  | some o => exact absurd hp (x.stay p (by rw [z]; simp))
theorem pn_lst {wr : WA} (ha : PWA X E es wr) : PWN X E (.List es pos) (wLst wr) := by
  obtain ⟨t, pt, kt⟩ := ha
  refine ⟨_, pe_lst pt, fun R F H σ Γ ex Q Qt g h eq w => kt R F H σ Γ ex _ _ g h (fun vs F1 H1 Γ1 ds h1 x1 r1 w1 => ?_) w⟩
  refine ⟨by rw [r1.length]; exact w1.1, fun p hp => ?_⟩
  obtain ⟨h2, f2, z2, n2⟩ := h1.newO (o := .lst vs) hp
  exact eq p F1 _ Γ1 (.lst _) _ h2 (x1.newO hp) (x1.was hp) ⟨p, rfl, f2, z2, vs, upd_same, r1.all⟩ n2 w1.2
@[reducible] def wDk : WE := fun _ Γ Q => Q (.dk []) true Γ
@[reducible] def wDt : WE := fun _ Γ Q => Q (.dt []) true Γ
theorem pn_dk : PWN X E (.Dict [] [] pos) wDk := ⟨_, pe_dnewK, fun R F H σ Γ ex Q Qt g h eq w p hp => by
  obtain ⟨h2, f2, z2, n2⟩ := h.newO (o := .dK []) hp
  exact eq p F _ Γ (.dk []) _ h2 (Nx.refl.newO hp) hp ⟨p, rfl, f2, z2, [], upd_same, .nil⟩ n2 w⟩
theorem pn_dt : PWN X E (.Dict [] [] pos) wDt := ⟨_, pe_dnewT, fun R F H σ Γ ex Q Qt g h eq w p hp => by
  obtain ⟨h2, f2, z2, n2⟩ := h.newO (o := .dT []) hp
  exact eq p F _ Γ (.dt []) _ h2 (Nx.refl.newO hp) hp ⟨p, rfl, f2, z2, [], upd_same, .nil⟩ n2 w⟩
/-- list of a list: a new one -/
theorem pn_list (hm : X.mg "list" = none) (ha : PWV X E a va) (hv : bootBuiltins "list" = some (.type "list")) (hg : Gl X "list" := by rfl)
    (he : starEach (a :: []) X.env = (false, eval a X.env) :: starEach [] X.env := by rfl) (hpl : (backTo pos (starEach [] X.env)).any (·.1) = false := by rfl) : PWN X E (.Call (.Name "list" p) [a] [] pos) (wC1 kList va) := by
  obtain ⟨ta, pa, ka⟩ := ha
  refine ⟨_, pe_callTy call_list_of hg hm hv (pa_cons pa pa_nil he) (by decide) (by decide) he hpl, fun R F H σ Γ ex Q Qt g h eq w => ?_⟩
  refine ka R F H σ Γ ex _ _ g h (fun v F1 H1 Γ1 vw h1 x1 r1 w1 => ?_) w
  cases l : lkV Γ1 vw with
  | none => simp only [l] at w1
  | some q =>
    obtain ⟨d, fr⟩ := q
    simp only [l] at w1
    have s := vw_sees h1 r1 l
    cases d with
    | lst ds =>
      obtain ⟨q, vs, e1, e2, r⟩ := s
      subst e1
      refine ⟨q, vs, rfl, .inl (.inl (.inl e2)), fun l hl => ?_⟩
      obtain ⟨h2, f2, z2, n2⟩ := h1.newO (o := .lst vs) hl
      exact eq l F1 _ Γ1 (.lst _) _ h2 (x1.newO hl) (x1.was hl) ⟨l, rfl, f2, z2, vs, upd_same, r⟩ n2 w1
    | tup ds =>
      obtain ⟨q, vs, e1, e2, r⟩ := s
      subst e1
      refine ⟨q, vs, rfl, .inr (.inl (.inl e2)), fun l hl => ?_⟩
      obtain ⟨h2, f2, z2, n2⟩ := h1.newO (o := .lst vs) hl
      exact eq l F1 _ Γ1 (.lst _) _ h2 (x1.newO hl) (x1.was hl) ⟨l, rfl, f2, z2, vs, upd_same, r⟩ n2 w1
    | _ => exact w1.elim
/-- [..] * n -/
@[reducible] def kRepL : K2 := fun x fx y _ Q => match x, y with
  | .lst a, .int k => (-(2 ^ 63) ≤ k ∧ k < 2 ^ 63 ∧ a.length * k.toNat ≤ sizeLine) ∧ Q (.lst (List.replicate k.toNat a).flatten) fx
  | _, _ => False
theorem pn_rep (ha : PWE X E a wa) (hb : PWE X E b wb) : PWN X E (.BinOp a .Mult b pos) (wOp kRepL wa wb) := by
  obtain ⟨ta, pa, ka⟩ := ha
  obtain ⟨tb, pb, kb⟩ := hb
  refine ⟨_, pe_op op_rep pa pb, fun R F H σ Γ ex Q Qt g h eq w => ?_⟩
  refine ka R F H σ Γ ex _ _ g h (fun u F1 H1 Γ1 dx fx h1 x1 r1 w1 => kb R F1 H1 σ Γ1 ex _ _ g h1 (fun y F2 H2 Γ2 dy fy h2 x2 r2 w2 => ?_) w1) w
  cases dx with
  | lst ds => cases dy with
    | int k =>
      obtain ⟨q, vs, e1, e2, r⟩ : Sees R F2 H2 u (.lst ds) fx := Sees.of h2.sub (r1.mono (fF_mono x2.ex))
      subst e1
      refine ⟨q, k, vs, rfl, rp_int r2, e2, w2.1.1, w2.1.2.1, by rw [r.length]; exact w2.1.2.2, fun l hl => ?_⟩
      obtain ⟨h3, f2, z2, n2⟩ := h2.newO (o := .lst (List.replicate k.toNat vs).flatten) hl
      exact eq l F2 _ Γ2 (.lst _) _ h3 ((x1.trans x2).newO hl) ((x1.trans x2).was hl) ⟨l, rfl, f2, z2, _, upd_same, rpAll_rep r _⟩ n2 w2.2
    | _ => exact w2.elim
  | _ => exact w2.elim
/-- name = a container of one's own -/
@[reducible] def wSetO (i : Nat) (we : WE) : WS := fun P Γ => we P.xe Γ fun o fr Γ' => P.nx (st Γ' i (some (.own o fr)))
theorem pws_setO {py : Pos} (i : Nat) (h : PWN X E e wa) (hN : X.N.Nodup) (hs : swapsWith e (some (.Name x py)) pos.line X.env = pure false := by rfl) (hi : X.N[i]? = some x := by rfl) (hx : Loc X.env.scope x := by first | exact Or.inl rfl | exact Or.inr rfl) (hf : X.fn x = true ∨ X.env.scope.names.lookup x = some .local := by first | exact .inl rfl | exact .inr rfl | assumption) :
    PWS X E (.Assign [.Name x py] e pos) (wSetO i wa) := by
  obtain ⟨t, pt, kt⟩ := h
  exact ⟨_, ps_set hN hi hx pt hs hf, fun R F H σ Γ P T g h s w => kt R F H σ Γ P.xe _ _ g h (fun p F' H' Γ' o fr h' x _ r n q => s.nx F' H' _ _ (h'.putOwn (i := i) r n) x.ex q) w⟩

/-! ### changes -/
/-- the thing of one's own in slot i -/
@[reducible] def ownAt (Γ : En) (i : Nat) : Option (D × Bool) := match gt Γ i with
  | some (.own o fr) => some (o, fr)
  | some (.ino o) => some (o, false)
  | _ => none
/-- .. put back changed -/
@[reducible] def ownTo (Γ : En) (i : Nat) (o : D) (fr : Bool) : En := match gt Γ i with
  | some (.own _ _) => st Γ i (some (.own o fr))
  | some (.ino _) => st Γ i (some (.ino o))
  | _ => Γ
structure OwnSt (R : Rl) (F H : Hp) (σ : L2.St) (Γ : En) (i : Nat) (o : D) (fr : Bool) (p : Addr) : Prop where
  at_ : σ[i]? = some (some (.ref p))
  top : TopH (fF R F fr) H p o
  ow : Ow σ Γ p
  fn : F p = none
  to_ : ∀ (u : HO) (o' : D) (fr' : Bool), TopH (fF R F fr') (upd H p u) p o' → Hd R F (upd H p u) σ (ownTo Γ i o' fr') ∧ ∀ a, Ow σ (ownTo Γ i o' fr') a → Ow σ Γ a
theorem own_st {R : Rl} {F H : Hp} {σ : L2.St} {Γ : En} (h : Hd R F H σ Γ) {i : Nat} {o : D} {fr : Bool} (e : ownAt Γ i = some (o, fr)) : ∃ p, OwnSt R F H σ Γ i o fr p := by
  unfold ownAt at e
  cases q : gt Γ i with
  | none => simp only [q] at e; cases e
  | some s =>
    obtain ⟨v, e1, so⟩ := h.sl i s q
    cases s with
    | own o2 f2 =>
      simp only [q] at e
      cases e
      obtain ⟨p, e3, f3, z3, t⟩ := so
      subst e3
      refine ⟨p, e1, t, ⟨i, _, q, rfl, e1⟩, f3, fun u o' fr' t' => ?_⟩
      have ee : ownTo Γ i o' fr' = st Γ i (some (.own o' fr')) := by unfold ownTo; simp only [q]
      rw [ee]
      refine ⟨h.mut q rfl e1 ⟨p, rfl, f3, z3, t'⟩ rfl f3 (.inl z3), fun a z => z.of_st fun s z1 z2 => ?_⟩
      by_cases ha : a = p
      · rw [ha]; exact .inl ⟨i, _, q, rfl, e1⟩
      · exact .inr fun z => ha (by rw [e1] at z; cases z; rfl)
    | ino o2 =>
      simp only [q] at e
      cases e
      obtain ⟨p, e3, z3, t⟩ := so
      subst e3
      have f3 := (h.iof p z3).1
      refine ⟨p, e1, t, ⟨i, _, q, rfl, e1⟩, f3, fun u o' fr' t' => ?_⟩
      have ee : ownTo Γ i o' fr' = st Γ i (some (.ino o')) := by unfold ownTo; simp only [q]
      rw [ee]
      refine ⟨h.mut q rfl e1 ⟨p, rfl, z3, t'.mono fF_ex fun _ k => k⟩ rfl f3 (.inr z3), fun a z => z.of_st fun s z1 z2 => ?_⟩
      by_cases ha : a = p
      · rw [ha]; exact .inl ⟨i, _, q, rfl, e1⟩
      · exact .inr fun z => ha (by rw [e1] at z; cases z; rfl)
    | dat _ _ => simp only [q] at e; cases e
    | raw _ => simp only [q] at e; cases e
    | scr _ => simp only [q] at e; cases e
    | old _ => simp only [q] at e; cases e
theorem OwnSt.nx {R : Rl} {F H : Hp} {σ : L2.St} {Γ : En} {i : Nat} {o : D} {fr : Bool} {p : Addr} (s : OwnSt R F H σ Γ i o fr p) {u : HO} {o' : D} {fr' : Bool} (t : TopH (fF R F fr') (upd H p u) p o') : Nx σ F H Γ F (upd H p u) (ownTo Γ i o' fr') :=
  ⟨Ex.refl F, fun a w e n => by
    rw [upd_ne (fun z => n (by rw [z]; exact s.ow))]
    exact e, (s.to_ u o' fr' t).2, fun _ _ e => .inl e, fun a h => by
    by_cases ha : a = p
    · rw [ha, upd_same]; simp
    · rw [upd_ne ha]; exact h⟩
/-- slot i holds a list of one's own -/
@[reducible] def hasL (Γ : En) (i : Nat) : Prop := match ownAt Γ i with
  | some (.lst _, _) => True
  | _ => False
/-- x.append(e) -/
@[reducible] def wApp (i : Nat) (we : WE) : WE := fun ex Γ Q => hasL Γ i ∧ we ex Γ fun d fr Γ1 => match ownAt Γ1 i with
  | some (.lst ds, f) => ds.length < sizeLine ∧ Q .non true (ownTo Γ1 i (.lst (ds ++ [d])) (f && fr))
  | _ => False
theorem hasL.get {R : Rl} {F H : Hp} {σ : L2.St} {Γ : En} {i : Nat} (hl : hasL Γ i) (h : Hd R F H σ Γ) : ∃ p vs ds f, ownAt Γ i = some (.lst ds, f) ∧ OwnSt R F H σ Γ i (.lst ds) f p ∧ H p = some (.lst vs) ∧ RpAll (fF R F f) vs ds := by
  unfold hasL at hl
  cases q : ownAt Γ i with
  | none => simp only [q] at hl
  | some z =>
    obtain ⟨d, f⟩ := z
    cases d with
    | lst ds =>
      obtain ⟨p, s⟩ := own_st h q
      obtain ⟨vs, e, r⟩ := s.top
      exact ⟨p, vs, ds, f, rfl, s, e, r⟩
    | _ => simp only [q] at hl
theorem rp_both {R : Rl} {F : Hp} {f fr : Bool} {vs : List V} {ds : List D} {v : V} {d : D} (r : RpAll (fF R F f) vs ds) (rv : Rpf R F fr v d) : RpAll (fF R F (f && fr)) vs ds ∧ Rpf R F (f && fr) v d := by
  cases f with
  | true => cases fr with
    | true => exact ⟨r, rv⟩
    | false => exact ⟨r.mono nw_ex, rv⟩
  | false => exact ⟨r, rv.mono fF_ex⟩
theorem pw_app (i : Nat) {apos : Pos} (he : PWE X E e wa) (hN : X.N[i]? = some x := by rfl) (hv : Vis X.env.scope x := by first | exact Or.inl rfl | exact Or.inr (Or.inl rfl) | exact Or.inr (Or.inr rfl)) (hd : (x == ("__debug__" : Str)) = false := by decide) (hcd : (x == ("__classdict__" : Str)) = false := by decide)
    (hbase : attributeBase (.Name x p) "append" X.env (eval (.Name x p) X.env) = eval (.Name x p) X.env := by rfl)
    (hfew : ((backTo pos (starEach (e :: []) X.env)).all (fun x => !x.1) && (backToKw pos (keywordEach [] X.env)).all (fun x => x.1.isSome) && decide ((e :: []).length + ([] : List Keyword).length + (if ([] : List Keyword).isEmpty then 0 else 1) < 30)) = true := by rfl)
    (hline : (apos.endLine == pos.line) = true := by rfl) (hs : starEach (e :: []) X.env = (false, eval e X.env) :: starEach [] X.env := by rfl) (hplain : (backTo pos (starEach [] X.env)).any (·.1) = false := by rfl) :
    PWE X E (.Call (.Attribute (.Name x p) "append" apos) [e] [] pos) (wApp i wa) := by
  obtain ⟨t, pt, kt⟩ := he
  refine ⟨_, pe_bm PySem.F.plainAttrs_list PySem.F.slot_list_append PySem.F.type_list_append mt_append (pe_var hN hv hd hcd) (pa_cons pt pa_nil hs) hbase hfew hline hs hplain, fun R F H σ Γ ex Q Qt g h eq w => ?_⟩
  obtain ⟨hl, w⟩ := w
  obtain ⟨p, vs, ds, f, _, s, e1, _⟩ := hl.get h
  refine ⟨.ref p, s.at_, .inl ⟨rfl, vs, .inl (.inl e1)⟩, ?_⟩
  refine kt R F H σ Γ ex _ _ g h (fun v F1 H1 Γ1 d fr h1 x1 r1 w1 => ?_) w
  cases q : ownAt Γ1 i with
  | none => simp only [q] at w1
  | some z =>
    obtain ⟨d2, f2⟩ := z
    cases d2 with
    | lst ds2 =>
      simp only [q] at w1
      obtain ⟨p2, s2⟩ := own_st h1 q
      obtain ⟨vs2, e2, r2⟩ := s2.top
      have ep : p2 = p := by
        have z1 := s.at_
        rw [s2.at_] at z1
        cases z1
        rfl
      subst ep
      obtain ⟨ra, rb⟩ := rp_both r2 r1
      have t : TopH (fF R F1 (f2 && fr)) (upd H1 p2 (.lst (vs2 ++ [v]))) p2 (.lst (ds2 ++ [d])) := ⟨_, upd_same, ra.append (.cons rb .nil)⟩
      exact ⟨p2, vs2, v, rfl, rfl, e2, by rw [r2.length]; exact w1.1, eq .non F1 _ _ .non true (s2.to_ _ _ _ t).1 (x1.trans (s2.nx t)) .non w1.2⟩
    | _ => simp only [q] at w1
/-- x.pop() -/
@[reducible] def wPop (i : Nat) : WE := fun _ Γ Q => match ownAt Γ i with
  | some (.lst ds, f) => (match ds.getLast? with
    | some d => Q d (f || flt d) (ownTo Γ i (.lst ds.dropLast) f)
    | none => False)
  | _ => False
theorem pw_pop (i : Nat) {apos : Pos} (hN : X.N[i]? = some x := by rfl) (hv : Vis X.env.scope x := by first | exact Or.inl rfl | exact Or.inr (Or.inl rfl) | exact Or.inr (Or.inr rfl)) (hd : (x == ("__debug__" : Str)) = false := by decide) (hcd : (x == ("__classdict__" : Str)) = false := by decide)
    (hbase : attributeBase (.Name x p) "pop" X.env (eval (.Name x p) X.env) = eval (.Name x p) X.env := by rfl) (hline : (apos.endLine == pos.line) = true := by rfl) :
    PWE X E (.Call (.Attribute (.Name x p) "pop" apos) [] [] pos) (wPop i) := by
  refine ⟨_, pe_bm0 PySem.F.plainAttrs_list PySem.F.slot_list_pop PySem.F.type_list_pop mt_pop (pe_var hN hv hd hcd) hbase hline, fun R F H σ Γ ex Q Qt g h eq w => ?_⟩
  unfold wPop at w
  cases q : ownAt Γ i with
  | none => simp only [q] at w
  | some z =>
    obtain ⟨d2, f2⟩ := z
    cases d2 with
    | lst ds =>
      simp only [q] at w
      cases q2 : ds.getLast? with
      | none => simp only [q2] at w
      | some d =>
        simp only [q2] at w
        obtain ⟨p, s⟩ := own_st h q
        obtain ⟨vs, e1, r⟩ := s.top
        have q3 : ds[ds.length - 1]? = some d := by rw [← List.getLast?_eq_getElem?]; exact q2
        obtain ⟨v, e3, rv⟩ := r.get q3
        have t : TopH (fF R F f2) (upd H p (.lst vs.dropLast)) p (.lst ds.dropLast) := ⟨_, upd_same, r.dropLast⟩
        exact ⟨.ref p, s.at_, .inl ⟨rfl, vs, .inl (.inl e1)⟩, p, vs, v, rfl, rfl, e1, by rw [r.length]; exact e3, eq v F _ _ d _ (s.to_ _ _ _ t).1 (s.nx t) (Rp.fq (R := R) rv) w⟩
    | _ => simp only [q] at w
/-- x.pop(k) -/
@[reducible] def wPopAt (i : Nat) (we : WE) : WE := fun ex Γ Q => hasL Γ i ∧ we ex Γ fun y _ Γ1 => match ownAt Γ1 i, y with
  | some (.lst ds, f), .int k => (-(2 ^ 63) ≤ k ∧ k < 2 ^ 63) ∧ (match seqIndex? k ds.length with
    | some j => (match ds[j]? with
      | some d => Q d (f || flt d) (ownTo Γ1 i (.lst (ds.eraseIdx j)) f)
      | none => False)
    | none => False)
  | _, _ => False
theorem pw_popAt (i : Nat) {apos : Pos} (he : PWE X E e wa) (hN : X.N[i]? = some x := by rfl) (hv : Vis X.env.scope x := by first | exact Or.inl rfl | exact Or.inr (Or.inl rfl) | exact Or.inr (Or.inr rfl)) (hd : (x == ("__debug__" : Str)) = false := by decide) (hcd : (x == ("__classdict__" : Str)) = false := by decide)
    (hbase : attributeBase (.Name x p) "pop" X.env (eval (.Name x p) X.env) = eval (.Name x p) X.env := by rfl)
    (hfew : ((backTo pos (starEach (e :: []) X.env)).all (fun x => !x.1) && (backToKw pos (keywordEach [] X.env)).all (fun x => x.1.isSome) && decide ((e :: []).length + ([] : List Keyword).length + (if ([] : List Keyword).isEmpty then 0 else 1) < 30)) = true := by rfl)
    (hline : (apos.endLine == pos.line) = true := by rfl) (hs : starEach (e :: []) X.env = (false, eval e X.env) :: starEach [] X.env := by rfl) (hplain : (backTo pos (starEach [] X.env)).any (·.1) = false := by rfl) :
    PWE X E (.Call (.Attribute (.Name x p) "pop" apos) [e] [] pos) (wPopAt i wa) := by
  obtain ⟨t, pt, kt⟩ := he
  refine ⟨_, pe_bm PySem.F.plainAttrs_list PySem.F.slot_list_pop PySem.F.type_list_pop mt_popAt (pe_var hN hv hd hcd) (pa_cons pt pa_nil hs) hbase hfew hline hs hplain, fun R F H σ Γ ex Q Qt g h eq w => ?_⟩
  obtain ⟨hl, w⟩ := w
  obtain ⟨p, vs, ds, f, _, s, e1, _⟩ := hl.get h
  refine ⟨.ref p, s.at_, .inl ⟨rfl, vs, .inl (.inl e1)⟩, ?_⟩
  refine kt R F H σ Γ ex _ _ g h (fun v F1 H1 Γ1 d fr h1 x1 r1 w1 => ?_) w
  cases q : ownAt Γ1 i with
  | none => simp only [q] at w1
  | some z =>
    obtain ⟨d2, f2⟩ := z
    cases d2 with
    | lst ds2 => cases d with
      | int k =>
        simp only [q] at w1
        obtain ⟨⟨b1, b2⟩, w1⟩ := w1
        cases q2 : seqIndex? k ds2.length with
        | none => simp only [q2] at w1
        | some j =>
          simp only [q2] at w1
          cases q3 : ds2[j]? with
          | none => simp only [q3] at w1
          | some d3 =>
            simp only [q3] at w1
            obtain ⟨p2, s2⟩ := own_st h1 q
            obtain ⟨vs2, e2, r2⟩ := s2.top
            have ep : p2 = p := by
              have z1 := s.at_
              rw [s2.at_] at z1
              cases z1
              rfl
            subst ep
            obtain ⟨v3, e3, rv⟩ := r2.get q3
            have t : TopH (fF R F1 f2) (upd H1 p2 (.lst (vs2.eraseIdx j))) p2 (.lst (ds2.eraseIdx j)) := ⟨_, upd_same, r2.eraseIdx j⟩
            exact ⟨p2, vs2, k, j, v3, rfl, by rw [rp_int r1], e2, b1, b2, by rw [r2.length]; exact q2, e3, eq v3 F1 _ _ d3 _ (s2.to_ _ _ _ t).1 (x1.trans (s2.nx t)) (Rp.fq (R := R) rv) w1⟩
      | _ => simp only [q] at w1
    | _ => simp only [q] at w1
/-- x[k] = e, x a list of one's own -/
@[reducible] def wSetAt (i : Nat) (wi we : WE) : WS := fun P Γ => we P.xe Γ fun d fr Γ1 => ∃ o, ownAt Γ1 i = some o ∧ wi P.xe Γ1 fun y _ Γ2 => match ownAt Γ2 i, y with
  | some (.lst ds, f), .int k => (match ixN ds.length k with
    | some j => P.nx (ownTo Γ2 i (.lst (ds.set j d)) (f && fr))
    | none => False)
  | _, _ => False
theorem pws_setAt (i : Nat) {py : Pos} (he : PWE X E e wa) (hk : PWE X E b wb) (hN : X.N[i]? = some x := by rfl) (hv : Vis X.env.scope x := by first | exact Or.inl rfl | exact Or.inr (Or.inl rfl) | exact Or.inr (Or.inr rfl)) (hd : (x == ("__debug__" : Str)) = false := by decide) (hcd : (x == ("__classdict__" : Str)) = false := by decide)
    (ha : ∀ v, assign (.Subscript (.Name x p) b py) X.env v = (do
      let ov ← holding [v] (eval (.Name x p) X.env)
      let iv ← holding [v, ov] (eval b X.env)
      standAt py
      holding [v, ov, iv] (setItem ov iv v)
      release [v, ov, iv] []) := by intro _; rfl)
    (hs : swapsWithSole [.Subscript (.Name x p) b py] e pos.line X.env = pure false := by rfl) (hw : swappedStores [.Subscript (.Name x p) b py] e X.env = pure none := by rfl)
    (h1 : (assignEach [.Subscript (.Name x p) b py] X.env).map (·.2) = [assign (.Subscript (.Name x p) b py) X.env] := by rfl) :
    PWS X E (.Assign [.Subscript (.Name x p) b py] e pos) (wSetAt i wb wa) := by
  obtain ⟨t, pt, kt⟩ := he
  obtain ⟨u, pu, ku⟩ := hk
  refine ⟨_, ps_asg pt (pg_sub (pe_var hN hv hd hcd) pu set_list ha) hs hw h1, fun R F H σ Γ P T g h s w => ?_⟩
  refine kt R F H σ Γ P.xe _ _ g h (fun v F1 H1 Γ1 d fr h1 x1 r1 w1 => ?_) w
  obtain ⟨o, q0, w1⟩ := w1
  obtain ⟨p1, s1⟩ := own_st (o := o.1) (fr := o.2) h1 q0
  refine ⟨.ref p1, s1.at_, ?_⟩
  refine ku R F1 H1 σ Γ1 P.xe _ _ g h1 (fun y F2 H2 Γ2 dy fy h2 x2 r2 w2 => ?_) w1
  cases q : ownAt Γ2 i with
  | none => simp only [q] at w2
  | some z =>
    obtain ⟨d2, f2⟩ := z
    cases d2 with
    | lst ds2 => cases dy with
      | int k =>
        simp only [q] at w2
        cases q2 : ixN ds2.length k with
        | none => simp only [q2] at w2
        | some j =>
          simp only [q2] at w2
          obtain ⟨p2, s2⟩ := own_st h2 q
          obtain ⟨vs2, e2, rr⟩ := s2.top
          have ep : p2 = p1 := by
            have z1 := s1.at_
            rw [s2.at_] at z1
            cases z1
            rfl
          subst ep
          obtain ⟨ra, rb⟩ := rp_both rr (r1.mono (fF_mono x2.ex))
          have t : TopH (fF R F2 (f2 && fr)) (upd H2 p2 (.lst (vs2.set j v))) p2 (.lst (ds2.set j d)) := ⟨_, upd_same, ra.set rb j⟩
          exact ⟨p2, vs2, k, j, rfl, rp_int r2, e2, by rw [rr.length]; exact q2, s.nx F2 _ _ _ (s2.to_ _ _ _ t).1 (x1.trans x2).ex w2⟩
      | _ => simp only [q] at w2
    | _ => simp only [q] at w2
/-- d[k] = e, d a dict of one's own -/
def putD {κ : Type} [DecidableEq κ] (kvs : List (κ × D)) (k : κ) (d : D) : List (κ × D) := if (kvs.any fun kv => decide (kv.1 = k)) = true then kvs.map fun kv => if kv.1 = k then (kv.1, d) else kv else kvs ++ [(k, d)]
end
end Y

/-! Y: part 9: what is walked; for, while, list comprehensions. -/
namespace Y
open PySem L2

/-- things of one's own that a walk looks into: slot, content -/
abbrev Dep := List (Nat × D × Bool)
def depOk (σ0 σ : L2.St) (Γ : En) (dp : Dep) : Prop := ∀ x ∈ dp, σ[x.1]? = σ0[x.1]? ∧ lkV Γ (.own x.1) = some x.2
/-- a walk's iterator J yields these items, while what it looks into stands -/
def ItOk (R : Rl) (F : Hp) (σ : L2.St) (J : It) (items : List (D × Bool)) (dp : Dep) : Prop :=
  ∀ (i : Nat) (F' H' : Hp) (σ' : L2.St) (Γ' : En), Ex F F' → Hd R F' H' σ' Γ' → depOk σ σ' Γ' dp →
    (∀ d fr, items[i]? = some (d, fr) → J.go i H' ∧ ∀ x H2, J.yld i H' x H2 → ∃ F2, Ex F' F2 ∧ Ex H' H2 ∧ (∀ a u, F2 a = some u → RdD H2 a u) ∧ (∀ a u, F2 a = some u → F' a = some u ∨ H' a = none) ∧ Rpf R F2 fr x d) ∧
    (items.length ≤ i → J.stop i H')
abbrev WI := EX → En → (List (D × Bool) → Dep → En → Prop) → Prop
def IQ (R : Rl) (F H : Hp) (σ : L2.St) (Γ : En) (Q : List (D × Bool) → Dep → En → Prop) (Rt : It → Hp → Prop) : Prop := ∀ J F' H' Γ' items dp, Hd R F' H' σ Γ' → Nx σ F H Γ F' H' Γ' → ItOk R F' σ J items dp → Q items dp Γ' → Rt J H'
def SI (X : Cx) (E : XK) (wi : TI) (w : WI) : Prop := ∀ (R : Rl) (F H : Hp) (σ : L2.St) (Γ : En) (ex : EX) Q Rt, Go X R E ex → Hd R F H σ Γ → IQ R F H σ Γ Q Rt → w ex Γ Q → wi σ H Rt
def PWI (X : Cx) (E : XK) (tg it : Expr) (w : WI) : Prop := ∃ wi : TI, PI X tg it wi ∧ SI X E wi w
def rngD (lo : Int) (n : Nat) : List (D × Bool) := (List.range n).map fun (i : Nat) => (D.int (lo + i), true)
section
variable {X : Cx} {E : XK} {e a b c tg : Expr} {es : List Expr} {pos p : Pos} {x : Str} {wa wb wc : WE} {va vb : WV}
theorem sql_of {K : PySem.W.Frag} {H : Hp} {a : Addr} {xs : List V} (h : H a = some (.lst xs)) : SqL K H a xs := .inl (.inl h)
/-- what is looked into stands, at whatever values -/
theorem vw_stands {R : Rl} {F1 H1 : Hp} {σ : L2.St} {Γ1 : En} (h1 : Hd R F1 H1 σ Γ1) {v : V} {vw : Vw} {ds : List D} {fr : Bool} (r1 : VwOk R F1 σ v vw) (l : lkV Γ1 vw = some (.lst ds, fr)) {F' H' : Hp} {σ' : L2.St} {Γ' : En} (xF : Ex F1 F') (h' : Hd R F' H' σ' Γ')
    (dp : ∀ j, vw = .own j → σ'[j]? = σ[j]? ∧ lkV Γ' (.own j) = some (.lst ds, fr)) {p : Addr} (e1 : v = .ref p) : ∃ vs, H' p = some (.lst vs) ∧ RpAll (fF R F' fr) vs ds := by
  subst e1
  cases vw with
  | val d' fr' =>
    have ee : (d', fr') = (D.lst ds, fr) := Option.some.inj l
    injection ee with e3 e4
    subst e3
    subst e4
    have r1' : Rp (fF R F1 fr') (.ref p) (.lst ds) := r1
    cases r1' with
    | lst z r' => exact ⟨_, RdD.lst (h'.sub _ _ (xF _ _ (fF_ex _ _ z))), r'.mono (fF_mono xF)⟩
  | own j =>
    obtain ⟨z1, z2⟩ := dp j rfl
    have z3 : σ[j]? = some (some (.ref p)) := r1
    have z4 : σ'[j]? = some (some (.ref p)) := z1.trans z3
    obtain ⟨p2, vs2, e3, e4, r2⟩ := vw_sees h' (v := .ref p) (vw := .own j) z4 z2
    cases e3
    exact ⟨vs2, e4, r2⟩
@[reducible] def depOf (vw : Vw) (d : D) (fr : Bool) : Dep := match vw with
  | .own i => [(i, d, fr)]
  | .val _ _ => []
theorem depOf_ok {σ0 σ : L2.St} {Γ : En} {vw : Vw} {d : D} {fr : Bool} (h : depOk σ0 σ Γ (depOf vw d fr)) : ∀ j, vw = .own j → σ[j]? = σ0[j]? ∧ lkV Γ (.own j) = some (d, fr) := fun j e => by
  subst e
  exact h (j, d, fr) (by simp [depOf])
theorem map_get {ds : List D} {fr : Bool} {i : Nat} {d : D} {f : Bool} (h : (ds.map fun d => (d, fr))[i]? = some (d, f)) : ds[i]? = some d ∧ f = fr := by
  rw [List.getElem?_map] at h
  cases q : ds[i]? with
  | none => rw [q] at h; cases h
  | some z =>
    rw [q] at h
    cases h
    exact ⟨rfl, rfl⟩
/-- a list that is looked into, as items -/
@[reducible] def wItL (va : WV) : WI := fun ex Γ Q => va ex Γ fun vw Γ1 => match lkV Γ1 vw with
  | some (.lst ds, fr) => Q (ds.map fun d => (d, fr)) (depOf vw (.lst ds) fr) Γ1
  | _ => False
theorem pi_lst (ha : PWV X E a va) : PWI X E tg a (wItL va) := by
  obtain ⟨t, pt, kt⟩ := ha
  refine ⟨_, pi_list pt, fun R F H σ Γ ex Q Rt g h iq w => ?_⟩
  refine kt R F H σ Γ ex _ _ g h (fun v F1 H1 Γ1 vw h1 x1 r1 w1 => ?_) w
  cases l : lkV Γ1 vw with
  | none => simp only [l] at w1
  | some q =>
    obtain ⟨d, fr⟩ := q
    cases d with
    | lst ds =>
      simp only [l] at w1
      obtain ⟨p, vs, e1, e2, r⟩ := vw_sees h1 r1 l
      refine ⟨p, e1, ⟨vs, sql_of e2⟩, ?_⟩
      refine iq (Itl X.K p) F1 H1 Γ1 _ _ h1 x1 (fun i F' H' σ' Γ' xF h' dp => ?_) w1
      obtain ⟨vs', st1, st2⟩ := vw_stands h1 r1 l xF h' (depOf_ok dp) e1
      refine ⟨fun d f hi => ?_, fun hi => ⟨vs', sql_of st1, by rw [st2.length]; simpa using hi⟩⟩
      obtain ⟨hd, ef⟩ := map_get hi
      subst ef
      obtain ⟨y, ey, ry⟩ := st2.get hd
      refine ⟨⟨vs', y, sql_of st1, ey⟩, fun x H2 hy => ?_⟩
      obtain ⟨eH, hx⟩ := hy
      subst eH
      have ex2 := hx vs' (sql_of st1)
      rw [ey] at ex2
      cases ex2
      exact ⟨F', Ex.refl _, Ex.refl _, h'.sub, fun a u z => .inl z, ry⟩
    | _ => simp only [l] at w1
/-- range(n), range(a, b) -/
@[reducible] def wItR1 (wa : WE) : WI := fun ex Γ Q => wa ex Γ fun d _ Γ1 => match d with
  | .int n => (-(2 ^ 62) ≤ n ∧ n < 2 ^ 62) ∧ Q (rngD 0 n.toNat) [] Γ1
  | _ => False
@[reducible] def wItR2 (wa wb : WE) : WI := fun ex Γ Q => wa ex Γ fun d _ Γ1 => wb ex Γ1 fun d2 _ Γ2 => match d, d2 with
  | .int a, .int b => (-(2 ^ 62) ≤ a ∧ a < 2 ^ 62 ∧ -(2 ^ 62) ≤ b ∧ b < 2 ^ 62) ∧ Q (rngD a (b - a).toNat) [] Γ2
  | _, _ => False
theorem rng_it {R : Rl} {F : Hp} {σ : L2.St} {lo : Int} {n : Nat} : ItOk R F σ (Itr lo n) (rngD lo n) [] := fun i F' H' σ' Γ' xF h' dp => by
  refine ⟨fun d f hi => ?_, fun hi => ?_⟩
  · unfold rngD at hi
    rw [List.getElem?_map] at hi
    cases q : (List.range n)[i]? with
    | none => rw [q] at hi; cases hi
    | some j =>
      rw [q] at hi
      obtain ⟨hj, ej⟩ := List.getElem?_eq_some_iff.mp q
      rw [List.getElem_range] at ej
      subst ej
      rw [List.length_range] at hj
      cases hi
      refine ⟨hj, fun x H2 hy => ?_⟩
      obtain ⟨eH, ex⟩ := hy
      subst eH
      subst ex
      exact ⟨F', Ex.refl _, Ex.refl _, h'.sub, fun a u z => .inl z, .int _⟩
  · unfold rngD at hi
    rw [List.length_map, List.length_range] at hi
    exact hi
theorem pi_rng1 (hm : X.mg "range" = none) (ha : PWE X E a wa) (hg : Gl X "range" := by rfl) (hs : starEach [a] X.env = [(false, eval a X.env)] := by rfl) : PWI X E tg (.Call (.Name "range" p) [a] [] pos) (wItR1 wa) := by
  obtain ⟨t, pt, kt⟩ := ha
  refine ⟨_, pi_range1 hg hm (pa_cons pt pa_nil hs) hs, fun R F H σ Γ ex Q Rt g h iq w => ?_⟩
  refine kt R F H σ Γ ex _ _ g h (fun v F1 H1 Γ1 d fr h1 x1 r1 w1 => ?_) w
  cases d with
  | int n =>
    have e := rp_int r1
    subst e
    exact ⟨n, rfl, w1.1.1, w1.1.2, iq _ F1 H1 Γ1 _ _ h1 x1 rng_it w1.2⟩
  | _ => exact w1.elim
theorem pi_rng2 (hm : X.mg "range" = none) (ha : PWE X E a wa) (hb : PWE X E b wb) (hg : Gl X "range" := by rfl) (hs : starEach [a, b] X.env = [(false, eval a X.env), (false, eval b X.env)] := by rfl) (hs2 : starEach [b] X.env = [(false, eval b X.env)] := by rfl) :
    PWI X E tg (.Call (.Name "range" p) [a, b] [] pos) (wItR2 wa wb) := by
  obtain ⟨t, pt, kt⟩ := ha
  obtain ⟨u, pu, ku⟩ := hb
  refine ⟨_, pi_range2 hg hm (pa_cons pt (pa_cons pu pa_nil hs2) (hs.trans (by rw [hs2]))) hs hs2, fun R F H σ Γ ex Q Rt g h iq w => ?_⟩
  refine kt R F H σ Γ ex _ _ g h (fun v F1 H1 Γ1 d fr h1 x1 r1 w1 => ku R F1 H1 σ Γ1 ex _ _ g h1 (fun v2 F2 H2 Γ2 d2 fr2 h2 x2 r2 w2 => ?_) w1) w
  cases d with
  | int n => cases d2 with
    | int m =>
      have e := rp_int r1
      subst e
      have e := rp_int r2
      subst e
      exact ⟨n, m, rfl, w2.1, iq _ F2 H2 Γ2 _ _ h2 (x1.trans x2) rng_it w2.2⟩
    | _ => exact w2.elim
  | _ => exact w2.elim
/-- enumerate(xs) -/
def enumD (ds : List D) (fr : Bool) : List (D × Bool) := ds.zipIdx.map fun q => (.tup [.int (q.2 : Int), q.1], fr)
@[reducible] def wItE (va : WV) : WI := fun ex Γ Q => va ex Γ fun vw Γ1 => match lkV Γ1 vw with
  | some (.lst ds, fr) => Q (enumD ds fr) (depOf vw (.lst ds) fr) Γ1
  | _ => False
theorem enum_get {ds : List D} {fr f : Bool} {i : Nat} {d : D} (h : (enumD ds fr)[i]? = some (d, f)) : ∃ z, ds[i]? = some z ∧ d = .tup [.int (i : Int), z] ∧ f = fr := by
  unfold enumD at h
  rw [List.getElem?_map, List.getElem?_zipIdx] at h
  cases q : ds[i]? with
  | none => rw [q] at h; cases h
  | some z =>
    rw [q] at h
    simp at h
    exact ⟨z, rfl, h.1.symm, h.2.symm⟩
theorem enum_len {ds : List D} {fr : Bool} : (enumD ds fr).length = ds.length := by simp [enumD]
theorem pi_en {elts : List Expr} {kk : Nat} {tpos : Pos} (hm : X.mg "enumerate" = none) (ha : PWV X E a va) (hg : Gl X "enumerate" := by rfl) (hs : starEach [a] X.env = [(false, eval a X.env)] := by rfl) : PWI X E (.Tuple elts kk tpos) (.Call (.Name "enumerate" p) [a] [] pos) (wItE va) := by
  obtain ⟨t, pt, kt⟩ := ha
  refine ⟨_, pi_enum hg hm (pa_cons pt pa_nil hs) hs, fun R F H σ Γ ex Q Rt g h iq w => ?_⟩
  refine kt R F H σ Γ ex _ _ g h (fun v F1 H1 Γ1 vw h1 x1 r1 w1 => ?_) w
  cases l : lkV Γ1 vw with
  | none => simp only [l] at w1
  | some q =>
    obtain ⟨d, fr⟩ := q
    cases d with
    | lst ds =>
      simp only [l] at w1
      obtain ⟨p, vs, e1, e2, r⟩ := vw_sees h1 r1 l
      refine ⟨p, vs, by rw [e1], sql_of e2, ?_⟩
      refine iq (Ite X.K p) F1 H1 Γ1 _ _ h1 x1 (fun i F' H' σ' Γ' xF h' dp => ?_) w1
      obtain ⟨vs', st1, st2⟩ := vw_stands h1 r1 l xF h' (depOf_ok dp) e1
      refine ⟨fun d f hi => ?_, fun hi => ⟨vs', sql_of st1, by rw [st2.length]; rw [enum_len] at hi; exact hi⟩⟩
      obtain ⟨z, hz, ed, ef⟩ := enum_get hi
      subst ed
      subst ef
      obtain ⟨y, ey, ry⟩ := st2.get hz
      refine ⟨⟨vs', y, sql_of st1, ey⟩, fun x H2 hy => ?_⟩
      obtain ⟨T, y2, e3, hT, eH, hx⟩ := hy
      have ex2 := hx vs' (sql_of st1)
      rw [ey] at ex2
      cases ex2
      subst e3
      subst eH
      obtain ⟨h2, x2, at_⟩ := h'.newF (o := .tup [.int (i : Nat), y]) hT
      refine ⟨_, x2.ex, Ex.new hT, h2.sub, fun a u z => ?_, .tup (at_ _) (.cons (.int _) (.cons (ry.mono (fF_mono x2.ex)) .nil))⟩
      by_cases ha : a = T
      · rw [ha]; exact .inr hT
      · rw [upd_ne ha] at z
        exact .inl z
    | _ => simp only [l] at w1

/-! ### for -/
@[reducible] def forGo (tg : WG) (body : WS) (P : DE) : List (D × Bool) → En → Prop
  | [], Γ => P.nx Γ
  | x :: xs, Γ => tg x.1 x.2 Γ fun Γ1 => body { P with nx := forGo tg body P xs, ct := forGo tg body P xs, bk := P.nx } Γ1
@[reducible] def wFor (wi : WI) (tg : WG) (body : WS) : WS := fun P Γ => wi P.xe Γ fun items dp Γ1 => dp = [] ∧ forGo tg body P items Γ1
theorem drop_cons {α : Type} {l : List α} {i : Nat} (h : i < l.length) : l.drop i = l[i] :: l.drop (i + 1) := List.drop_eq_getElem_cons h
theorem pws_for {it : Expr} {body : List Stmt} {w : WI} {wg : WG} {wb : WS} {sl : List Nat} (hp : PassesOwn (model X.prog X.w) X.A X.env X.xe) (hc : X.calm = true) (hi : PWI X E tg it w) (hg : PWG X sl tg wg) (hb : PWSs X E body wb)
    (hs : ∀ x, foldedSetIterable it X.env x = pure x := by intro _; rfl) : PWS X E (.For tg it body [] pos) (wFor w wg wb) := by
  obtain ⟨wi, pi, ki⟩ := hi
  obtain ⟨tg', pg, kg⟩ := hg
  obtain ⟨tb, pb, kb⟩ := hb
  refine ⟨_, ps_for hp hc pi pg pb hs, fun R F H σ Γ P T g h s w => ?_⟩
  refine ki R F H σ Γ P.xe _ _ g h (fun J F1 H1 Γ1 items dp h1 x1 it q => ?_) w
  obtain ⟨ed, q⟩ := q
  subst ed
  refine ⟨fun i m σ H => m = items.length - i ∧ i ≤ items.length ∧ ∃ F Γ, Ex F1 F ∧ Hd R F H σ Γ ∧ forGo wg wb P (items.drop i) Γ, ⟨items.length, rfl, Nat.zero_le _, F1, Γ1, Ex.refl _, h1, q⟩, ?_⟩
  rintro i m σ2 H2 ⟨em, hi, F2, Γ2, x2, h2, q2⟩
  obtain ⟨it1, it2⟩ := it i F2 H2 σ2 Γ2 x2 h2 (fun z hz => absurd hz (by simp))
  by_cases hlt : i < items.length
  · obtain ⟨go, yld⟩ := it1 items[i].1 items[i].2 (List.getElem?_eq_getElem hlt)
    refine .inr ⟨go, fun σ' H' => ∃ F Γ, Ex F1 F ∧ Hd R F H' σ' Γ ∧ forGo wg wb P (items.drop (i + 1)) Γ, fun σ' H' ⟨F', Γ', a1, a2, a3⟩ => ⟨items.length - (i + 1), by omega, rfl, hlt, F', Γ', a1, a2, a3⟩, fun x H' hy => ?_⟩
    obtain ⟨F3, x3, xH, sub, new, rx⟩ := yld x H' hy
    rw [drop_cons hlt] at q2
    have h3 := h2.grow xH x3 sub new
    refine kg R F3 H' σ2 Γ2 x _ _ _ _ g.K h3 rx (fun σ4 Γ4 h4 _ q4 => ?_) q2
    refine kb R F3 H' σ4 Γ4 _ _ (by exact g) h4 ?_ q4
    have x13 := (x1.ex.trans x2).trans x3
    exact ⟨fun F' H' σ' Γ' hh xx qq => ⟨F', Γ', (x2.trans x3).trans xx, hh, qq⟩, fun v F' H' σ' Γ' d fr hh xx => s.rt v F' H' σ' Γ' d fr hh (x13.trans xx), fun F' H' σ' Γ' hh xx => s.nx F' H' σ' Γ' hh (x13.trans xx), fun F' H' σ' Γ' hh xx qq => ⟨F', Γ', (x2.trans x3).trans xx, hh, qq⟩⟩
  · have e : i = items.length := by omega
    subst e
    rw [List.drop_length] at q2
    exact .inl ⟨it2 (Nat.le_refl _), s.nx F2 H2 σ2 Γ2 h2 (x1.ex.trans x2) q2⟩
/-! ### while: an invariant by a measure -/
@[reducible] def wWhile (c : WT) (body : WS) : WS := fun P Γ => ∃ W : Nat → En → Prop, (∃ m, W m Γ) ∧ ∀ m Γ, W m Γ → c P.xe Γ fun b Γ1 => ifB b (body { P with nx := fun Γ2 => ∃ m', m' < m ∧ W m' Γ2, ct := fun Γ2 => ∃ m', m' < m ∧ W m' Γ2, bk := P.nx } Γ1) (P.nx Γ1)
theorem pws_while {body : List Stmt} {wc : WT} {wb : WS} (hp : PassesOwn (model X.prog X.w) X.A X.env X.xe) (hc : PWT X E c wc) (hb : PWSs X E body wb) : PWS X E (.While c body [] pos) (wWhile wc wb) := by
  obtain ⟨tc, pc, kc⟩ := hc
  obtain ⟨tb, pb, kb⟩ := hb
  refine ⟨_, ps_while hp pc pb, fun R F H σ Γ P T g h s w => ?_⟩
  obtain ⟨W, ⟨m0, w0⟩, turn⟩ := w
  refine ⟨fun m σ H => ∃ F' Γ, Ex F F' ∧ Hd R F' H σ Γ ∧ W m Γ, ⟨m0, F, Γ, Ex.refl _, h, w0⟩, ?_⟩
  rintro m σ1 H1 ⟨F1, Γ1, x1, h1, w1⟩
  refine kc R F1 H1 σ1 Γ1 P.xe _ _ g h1 (fun b F2 H2 Γ2 h2 x2 q => ?_) (turn m Γ1 w1)
  cases b with
  | true =>
    rw [if_pos rfl]
    refine ⟨fun σ' H' => ∃ F' Γ m', Ex F F' ∧ Hd R F' H' σ' Γ ∧ m' < m ∧ W m' Γ, fun σ' H' ⟨F', Γ', m', a1, a2, a3, a4⟩ => ⟨m', a3, F', Γ', a1, a2, a4⟩, ?_⟩
    refine kb R F2 H2 σ1 Γ2 _ _ (by exact g) h2 ?_ q
    have x12 := x1.trans x2.ex
    exact ⟨fun F' H' σ' Γ' hh xx ⟨m', l, qq⟩ => ⟨F', Γ', m', x12.trans xx, hh, l, qq⟩, fun v F' H' σ' Γ' d fr hh xx => s.rt v F' H' σ' Γ' d fr hh (x12.trans xx), fun F' H' σ' Γ' hh xx => s.nx F' H' σ' Γ' hh (x12.trans xx), fun F' H' σ' Γ' hh xx ⟨m', l, qq⟩ => ⟨F', Γ', m', x12.trans xx, hh, l, qq⟩⟩
  | false =>
    rw [if_neg Bool.false_ne_true]
    exact s.nx F2 H2 σ1 Γ2 h2 (x1.trans x2.ex) q
end
end Y

/-! Y: part 10: list comprehensions. -/
namespace Y
open PySem PySem.Spec PyProof.Rows L2

section
variable {X : Cx} {E : XK}
/-- every block of this comprehension's scope -/
abbrev Blk (X : Cx) (scope : Scope) (Φ : Cx → Prop) : Prop := ∀ (s : Shared) (H : Hp) (C : Addr) (cl : List (Str × Addr)) (fp : List Addr), Φ (X.blk s H scope (compEnvC scope cl C X.env) fp)
theorem go_blk {R : Rl} {ex : EX} {s : Shared} {H : Hp} {scope : Scope} {cenv : Env} {fp : List Addr} (g : Go X R E ex) : Go (X.blk s H scope cenv fp) R E ex := ⟨g.K, g.lk⟩
theorem go_none {R : Rl} (hK : R.K = X.K) : Go X R E0 (fun _ _ => False) := ⟨hK, fun _ _ _ _ _ _ _ _ h => h.elim⟩
theorem blk_e {scope : Scope} {e : Expr} {w : WE} (h : Blk X scope fun Y => PWE Y E e w) : ∃ te : TE, (Blk X scope fun Y => PE Y e te) ∧ SE X E te w := by
  refine ⟨fun σ H Q => ∀ (s : Shared) (H0 : Hp) (C : Addr) (cl : List (Str × Addr)) (fp : List Addr), (h s H0 C cl fp).choose σ H Q, fun s H0 C cl fp => ⟨fun pins st σ H Q I q => (h s H0 C cl fp).choose_spec.1.run pins st σ H Q I (q s H0 C cl fp)⟩, ?_⟩
  intro R F H σ Γ ex Q Qt g hd eq hw s H0 C cl fp
  exact (h s H0 C cl fp).choose_spec.2 R F H σ Γ ex Q Qt (go_blk g) hd eq hw
def PWTs (X : Cx) (E : XK) (ifs : List Expr) (w : WT) : Prop := ∃ te : TT, PTs X ifs te ∧ ST X E te w
@[reducible] def wYes : WT := fun _ Γ Q => Q true Γ
theorem pwts_nil : PWTs X E [] wYes := ⟨_, pts_nil, fun R F H σ Γ ex Q Qt g h eq w => eq true F H Γ h Nx.refl w⟩
theorem pwts_one {c : Expr} {w : WT} (h : PWT X E c w) : PWTs X E [c] w := by
  obtain ⟨t, pt, kt⟩ := h
  exact ⟨_, pts_one pt, kt⟩
theorem blk_t {scope : Scope} {ifs : List Expr} {w : WT} (h : Blk X scope fun Y => PWTs Y E ifs w) : ∃ te : TT, (Blk X scope fun Y => PTs Y ifs te) ∧ ST X E te w := by
  refine ⟨fun σ H Q => ∀ (s : Shared) (H0 : Hp) (C : Addr) (cl : List (Str × Addr)) (fp : List Addr), (h s H0 C cl fp).choose σ H Q, fun s H0 C cl fp => ⟨fun pins st σ H Q I q => (h s H0 C cl fp).choose_spec.1.run pins st σ H Q I (q s H0 C cl fp)⟩, ?_⟩
  intro R F H σ Γ ex Q Qt g hd eq hw s H0 C cl fp
  exact (h s H0 C cl fp).choose_spec.2 R F H σ Γ ex Q Qt (go_blk g) hd eq hw
theorem blk_g {scope : Scope} {tg : Expr} {sl : List Nat} {w : WG} (h : Blk X scope fun Y => PWG Y sl tg w) : ∃ g : TG, (Blk X scope fun Y => PG Y tg g) ∧ SG X sl g w := by
  refine ⟨fun v σ H Q => ∀ (s : Shared) (H0 : Hp) (C : Addr) (cl : List (Str × Addr)) (fp : List Addr), (h s H0 C cl fp).choose v σ H Q, fun s H0 C cl fp => ⟨fun pins st σ H v u Q I r q => (h s H0 C cl fp).choose_spec.1.run pins st σ H v u Q I r (q s H0 C cl fp)⟩, ?_⟩
  intro R F H σ Γ v d fr Q Qt hK hd r k hw s H0 C cl fp
  exact (h s H0 C cl fp).choose_spec.2 R F H σ Γ v d fr Q Qt hK hd r k hw
end

/-! ### the block's slots -/
@[reducible] def wp (Γ : En) : List Nat → En
  | [] => Γ
  | v :: vs => st (wp Γ vs) v none
@[reducible] def keepS : Option Sl → Option Sl
  | some (.own _ _) => none
  | some (.ino _) => none
  | s => s
/-- behind the block: the block's own slots as they were ahead of it -/
@[reducible] def rs (Γ Γ' : En) : List Nat → En
  | [] => Γ'
  | v :: vs => st (rs Γ Γ' vs) v (keepS (gt Γ v))
theorem wp_length (Γ : En) : ∀ vs, (wp Γ vs).length = Γ.length
  | [] => rfl
  | v :: vs => by unfold wp; rw [st_length, wp_length Γ vs]
theorem gt_wp {Γ : En} {i : Nat} {s : Sl} : ∀ {vs : List Nat}, gt (wp Γ vs) i = some s → gt Γ i = some s ∧ i ∉ vs
  | [], h => ⟨h, by simp⟩
  | v :: vs, h => by
    unfold wp at h
    by_cases hi : i = v
    · subst hi
      have hl := gt_lt h
      rw [st_length] at hl
      rw [gt_st_same hl] at h
      cases h
    · rw [gt_st_ne hi] at h
      obtain ⟨h1, h2⟩ := gt_wp h
      exact ⟨h1, by simp [hi, h2]⟩
theorem gt_rs_out {Γ Γ' : En} {i : Nat} : ∀ {vs : List Nat}, i ∉ vs → gt (rs Γ Γ' vs) i = gt Γ' i
  | [], _ => rfl
  | v :: vs, h => by
    have h1 : i ≠ v := fun z => h (by simp [z])
    unfold rs
    rw [gt_st_ne h1, gt_rs_out fun z => h (by simp [z])]
theorem gt_rs_in {Γ Γ' : En} {i : Nat} {s : Sl} : ∀ {vs : List Nat}, i ∈ vs → gt (rs Γ Γ' vs) i = some s → keepS (gt Γ i) = some s
  | [], h, _ => by cases h
  | v :: vs, h, e => by
    unfold rs at e
    by_cases hi : i = v
    · subst hi
      have hl := gt_lt e
      rw [st_length] at hl
      rw [gt_st_same hl] at e
      exact e
    · rw [gt_st_ne hi] at e
      rcases List.mem_cons.mp h with q | q
      · exact absurd q hi
      · exact gt_rs_in q e
theorem rs_length (Γ Γ' : En) : ∀ vs, (rs Γ Γ' vs).length = Γ'.length
  | [] => rfl
  | v :: vs => by unfold rs; rw [st_length, rs_length Γ Γ' vs]
theorem wipe_in {σ : L2.St} {i : Nat} : ∀ {vs : List Nat}, i ∈ vs → i < σ.length → (wipe σ vs)[i]? = some none
  | [], h, _ => by cases h
  | v :: vs, h, hl => by
    unfold wipe
    by_cases hi : v = i
    · subst hi
      rw [List.getElem?_set_self (by rw [wipe_length]; exact hl)]
    · rw [List.getElem?_set_ne hi]
      rcases List.mem_cons.mp h with q | q
      · exact absurd q.symm hi
      · exact wipe_in q hl
theorem wipe_same {σ σ' : L2.St} {vs : List Nat} (hl : σ'.length = σ.length) (h : ∀ j, j ∉ vs → σ'[j]? = σ[j]?) : wipe σ' vs = wipe σ vs := by
  apply List.ext_getElem?
  intro i
  by_cases hi : i ∈ vs
  · by_cases hli : i < σ.length
    · rw [wipe_in hi hli, wipe_in hi (by rw [hl]; exact hli)]
    · rw [List.getElem?_eq_none (by rw [wipe_length, hl]; omega), List.getElem?_eq_none (by rw [wipe_length]; omega)]
  · rw [wipe_out hi, wipe_out hi, h i hi]
theorem wipe_wipe {σ : L2.St} {vs : List Nat} : wipe (wipe σ vs) vs = wipe σ vs := wipe_same (wipe_length _ _) fun j hj => wipe_out hj
section
variable {R : Rl} {F F' H H' : Hp} {σ σ2 : L2.St} {Γ Γ2 : En} {vs : List Nat}
theorem ow_wiped {a : Addr} (h : Ow (wipe σ vs) (wp Γ vs) a) : Ow σ Γ a := by
  obtain ⟨j, t, e1, e2, e3⟩ := h
  obtain ⟨h1, h2⟩ := gt_wp e1
  rw [wipe_out h2] at e3
  exact ⟨j, t, h1, e2, e3⟩
theorem Hd.wiped (h : Hd R F H σ Γ) (vs : List Nat) : Hd R F H (wipe σ vs) (wp Γ vs) where
  sub := h.sub
  base := h.base
  f0 := h.f0
  new := h.new
  iof := h.iof
  len := by rw [wp_length, wipe_length]; exact h.len
  sl := fun i s e => by
    obtain ⟨h1, h2⟩ := gt_wp e
    obtain ⟨v, e1, ok⟩ := h.sl i s h1
    exact ⟨v, by rw [wipe_out h2]; exact e1, ok⟩
  sep := fun i j s t p e1 e2 o1 o2 p1 p2 => by
    obtain ⟨a1, a2⟩ := gt_wp e1
    obtain ⟨b1, b2⟩ := gt_wp e2
    rw [wipe_out a2] at p1
    rw [wipe_out b2] at p2
    exact h.sep i j s t p a1 b1 o1 o2 p1 p2
/-- behind a turn: back to the def's own slots -/
theorem Hd.unwiped (h : Hd R F H σ Γ) (h2 : Hd R F' H' σ2 Γ2) (x : Ex F F') (hl : σ2.length = σ.length) (out : ∀ j, j ∉ vs → σ2[j]? = σ[j]?) : Hd R F' H' σ (rs Γ Γ2 vs) where
  sub := h2.sub
  base := h2.base
  f0 := h2.f0
  new := h2.new
  iof := h2.iof
  len := by
    rw [rs_length, h2.len, hl]
  sl := fun i s e => by
    by_cases hi : i ∈ vs
    · have k := gt_rs_in hi e
      cases q : gt Γ i with
      | none => rw [q] at k; cases k
      | some t =>
        rw [q] at k
        obtain ⟨v, e1, ok⟩ := h.sl i t q
        refine ⟨v, e1, ?_⟩
        cases t with
        | dat d fr => cases k; exact Rp.mono (fF_mono x) ok
        | raw u => cases k; exact ok
        | scr ns => cases k; exact ok
        | old d => cases k; exact ok
        | own _ _ => cases k
        | ino _ => cases k
    · rw [gt_rs_out hi] at e
      obtain ⟨v, e1, ok⟩ := h2.sl i s e
      exact ⟨v, by rw [← out i hi]; exact e1, ok⟩
  sep := fun i j s t p e1 e2 o1 o2 p1 p2 => by
    have key : ∀ {i : Nat} {s : Sl}, gt (rs Γ Γ2 vs) i = some s → owny s = true → i ∉ vs := fun {i s} e o hi => by
      have k := gt_rs_in hi e
      cases q : gt Γ i with
      | none => rw [q] at k; cases k
      | some t =>
        rw [q] at k
        cases t with
        | dat d fr => cases k; cases o
        | raw u => cases k; cases o
        | scr ns => cases k; cases o
        | old d => cases k; cases o
        | own _ _ => cases k
        | ino _ => cases k
    have n1 := key e1 o1
    have n2 := key e2 o2
    rw [gt_rs_out n1] at e1
    rw [gt_rs_out n2] at e2
    rw [← out i n1] at p1
    rw [← out j n2] at p2
    exact h2.sep i j s t p e1 e2 o1 o2 p1 p2
end

/-! ### the comprehension -/
abbrev ex0 : EX := fun _ _ => False
def depE (Γ : En) (dp : Dep) : Prop := ∀ z ∈ dp, lkV Γ (.own z.1) = some z.2
@[reducible] def lcGo (tg : WG) (tt : WT) (te : WE) (vs : List Nat) (dp : Dep) : List (D × Bool) → List D → Bool → En → (List D → Bool → En → Prop) → Prop
  | [], acc, f, Γ, K => depE Γ dp ∧ K acc f Γ
  | x :: xs, acc, f, Γ, K => depE Γ dp ∧ tg x.1 x.2 (wp Γ vs) fun Γ1 => tt ex0 Γ1 fun b Γ2 => ifB b (te ex0 Γ2 fun d fr Γ3 => lcGo tg tt te vs dp xs (acc ++ [d]) (f && fr) (rs Γ Γ3 vs) K) (lcGo tg tt te vs dp xs acc f (rs Γ Γ2 vs) K)
@[reducible] def wLc (wi : WI) (tg : WG) (tt : WT) (te : WE) (vs : List Nat) : WE := fun ex Γ Q => wi ex Γ fun items dp Γ1 => items.length ≤ sizeLine ∧ lcGo tg tt te vs dp items [] true Γ1 fun ds f Γ2 => Q (.lst ds) f Γ2
section
variable {X : Cx} {E : XK}
theorem rp_bothF {R : Rl} {F : Hp} {f fr : Bool} {vs : List V} {ds : List D} {v : V} {d : D} (r : RpAll (fF R F f) vs ds) (rv : Rpf R F fr v d) : RpAll (fF R F (f && fr)) (vs ++ [v]) (ds ++ [d]) := by
  obtain ⟨h1, h2⟩ := rp_both r rv
  exact h1.append (.cons h2 .nil)
theorem ow_rs {σ σ4 : L2.St} {Γ Γ6 : En} {vs : List Nat} {a : Addr} (out : ∀ j, j ∉ vs → σ4[j]? = σ[j]?) (h : Ow σ (rs Γ Γ6 vs) a) : Ow σ4 Γ6 a := by
  obtain ⟨i, s, e, o, z⟩ := h
  have n : i ∉ vs := fun hi => by
    have k := gt_rs_in hi e
    cases q : gt Γ i with
    | none => rw [q] at k; cases k
    | some t =>
      rw [q] at k
      cases t with
      | dat d fr => cases k; cases o
      | raw u => cases k; cases o
      | scr ns => cases k; cases o
      | old d => cases k; cases o
      | own _ _ => cases k
      | ino _ => cases k
  rw [gt_rs_out n] at e
  exact ⟨i, s, e, o, by rw [out i n]; exact z⟩
/-- what a block's turn leaves -/
theorem Nx.block {σ σ4 : L2.St} {F H F2 H2 F6 H6 : Hp} {Γ Γ4 Γ6 : En} {vs : List Nat} (x : Nx σ F H Γ F2 H2 Γ) (ow : ∀ a, Ow σ4 Γ4 a → Ow σ Γ a) (y : Nx σ4 F2 H2 Γ4 F6 H6 Γ6) (out : ∀ j, j ∉ vs → σ4[j]? = σ[j]?) : Nx σ F H Γ F6 H6 (rs Γ Γ6 vs) :=
  ⟨x.ex.trans y.ex, fun a o e n => y.keep a o (x.keep a o e n) fun z => n (ow a z), fun a z => ow a (y.ow a (ow_rs out z)), fun a u e => by
    rcases y.new a u e with q | q | q
    · exact x.new a u q
    · cases z : H a with
      | none => exact .inr (.inl rfl)
      | some o => exact absurd q (x.stay a (by rw [z]; simp))
    · exact .inr (.inr (ow a q)), fun a h => y.stay a (x.stay a h)⟩
theorem Nx.poke {σ : L2.St} {F H F2 H2 : Hp} {Γ Γ2 : En} {p : Addr} {u : HO} (x : Nx σ F H Γ F2 H2 Γ2) (hp : H p = none) : Nx σ F H Γ F2 (upd H2 p u) Γ2 :=
  ⟨x.ex, fun a o e n => by
    rw [upd_ne (fun z => by rw [z, hp] at e; cases e)]
    exact x.keep a o e n, x.ow, x.new, fun a h => by
    by_cases ha : a = p
    · rw [ha, upd_same]; simp
    · rw [upd_ne ha]; exact x.stay a h⟩
/-- the loop of a comprehension: behind it the new list stands at p -/
theorem lc_run {wi : TI} {g : TG} {tt : TT} {te : TE} {w : WI} {wg : WG} {wt : WT} {we : WE} {vs sl : List Nat} (ki : SI X E wi w) (kg : SG X sl g wg) (kt : ST X E0 tt wt) (ke : SE X E0 te we) (hsl : ∀ j ∈ sl, j ∈ vs)
    {R : Rl} {F H : Hp} {σ : L2.St} {Γ : En} {ex : EX} {Q : D → Bool → En → Prop} {Qt : VK} (gg : Go X R E ex) (h : Hd R F H σ Γ)
    (eq : ∀ p F' H' Γ' ds fr vals, Hd R F' H' σ Γ' → Nx σ F H Γ F' H' Γ' → F' p = none → R.H0 p = none → ¬ Ow σ Γ' p → H' p = some (.lst vals) → RpAll (fF R F' fr) vals ds → H p = none → Q (.lst ds) fr Γ' → Qt (.ref p) H') (q : wLc w wg wt we vs ex Γ Q) : tLc wi g tt te vs σ H Qt := by
  refine ki R F H σ Γ ex _ _ gg h (fun J F1 H1 Γ1 items dp h1 x1 it q => ?_) q
  obtain ⟨hsz, q⟩ := q
  intro D0 hD
  obtain ⟨hn, fn, zn, on⟩ := h1.newO (o := .lst []) hD
  have hH : H D0 = none := by
    cases z : H D0 with
    | none => rfl
    | some o => exact absurd hD (x1.stay D0 (by rw [z]; simp))
  refine ⟨fun i m Hc => m = items.length - i ∧ i ≤ items.length ∧ ∃ Fc Γc acc f vals, Hd R Fc Hc σ Γc ∧ Nx σ F1 H1 Γ1 Fc Hc Γc ∧ Hc D0 = some (.lst vals) ∧ RpAll (fF R Fc f) vals acc ∧ vals.length ≤ i ∧ Fc D0 = none ∧ ¬ Ow σ Γc D0 ∧
      lcGo wg wt we vs dp (items.drop i) acc f Γc (fun ds f Γ2 => Q (.lst ds) f Γ2), ⟨items.length, rfl, Nat.zero_le _, F1, Γ1, [], true, [], hn, Nx.refl.poke hD, upd_same, .nil, Nat.le_refl _, fn, on, q⟩, ?_⟩
  rintro i m Hc ⟨em, hi, Fc, Γc, acc, f, vals, hc, nc, eD, rc, hlen, fD, oD, q2⟩
  have dpo : depE Γc dp → depOk σ σ Γc dp := fun z y hy => ⟨rfl, z y hy⟩
  by_cases hlt : i < items.length
  · rw [drop_cons hlt] at q2
    obtain ⟨de, q2⟩ := q2
    obtain ⟨it1, _⟩ := it i Fc Hc σ Γc nc.ex hc (dpo de)
    obtain ⟨go, yld⟩ := it1 items[i].1 items[i].2 (List.getElem?_eq_getElem hlt)
    refine .inr ⟨go, fun H' => ∃ Fc Γc acc f vals, Hd R Fc H' σ Γc ∧ Nx σ F1 H1 Γ1 Fc H' Γc ∧ H' D0 = some (.lst vals) ∧ RpAll (fF R Fc f) vals acc ∧ vals.length ≤ i + 1 ∧ Fc D0 = none ∧ ¬ Ow σ Γc D0 ∧
      lcGo wg wt we vs dp (items.drop (i + 1)) acc f Γc (fun ds f Γ2 => Q (.lst ds) f Γ2), fun H' z => ⟨items.length - (i + 1), by omega, rfl, hlt, z⟩, fun x H2 hy => ?_⟩
    obtain ⟨F2, xF, xH, sub, new, rx⟩ := yld x H2 hy
    have h3 := hc.grow xH xF sub new
    have n3 : Nx σ Fc Hc Γc F2 H2 Γc := .grow xF xH new
    refine kg R F2 H2 _ _ x _ _ _ _ gg.K (h3.wiped vs) rx (fun σ4 Γ4 h4 s4 q4 => ?_) q2
    have out4 : ∀ j, j ∉ vs → σ4[j]? = σ[j]? := fun j hj => (s4.out j fun z => hj (hsl j z)).trans (wipe_out hj)
    have ow4 : ∀ a, Ow σ4 Γ4 a → Ow σ Γc a := fun a z => ow_wiped (s4.ow a z)
    have len4 : σ4.length = σ.length := s4.len.trans (wipe_length _ _)
    refine ⟨wipe_same len4 out4, ?_⟩
    -- behind the turn's expressions
    have back : ∀ {F6 H6 Γ6}, Hd R F6 H6 σ4 Γ6 → Nx σ4 F2 H2 Γ4 F6 H6 Γ6 → Hd R F6 H6 σ (rs Γc Γ6 vs) ∧ Nx σ Fc Hc Γc F6 H6 (rs Γc Γ6 vs) ∧ H6 D0 = some (.lst vals) ∧ F6 D0 = none ∧ ¬ Ow σ (rs Γc Γ6 vs) D0 := fun {F6 H6 Γ6} h6 x6 => by
      have o4 : ¬ Ow σ4 Γ4 D0 := fun z => oD (ow4 D0 z)
      have nb := n3.block ow4 x6 out4
      have e2 := xH _ _ eD
      refine ⟨h3.unwiped h6 x6.ex len4 out4, nb, x6.keep D0 _ e2 o4, ?_, fun z => oD (nb.ow D0 z)⟩
      cases z : F6 D0 with
      | none => rfl
      | some u =>
        rcases nb.new D0 u z with y | y | y
        · rw [fD] at y; cases y
        · rw [eD] at y; cases y
        · exact absurd y oD
    refine kt R F2 H2 σ4 Γ4 _ _ _ (go_none gg.K) h4 (fun b F5 H5 Γ5 h5 x5 q5 => ?_) q4
    cases b with
    | true =>
      show (if true = true then _ else _)
      rw [if_pos rfl]
      refine ke R F5 H5 σ4 Γ5 _ _ _ (go_none gg.K) h5 (fun v F6 H6 Γ6 d fr h6 x6 r6 q6 => ?_) q5
      obtain ⟨h7, n7, e7, f7, o7⟩ := back h6 (x5.trans x6)
      refine ⟨vals, e7, by omega, F6, rs Γc Γ6 vs, acc ++ [d], f && fr, vals ++ [v], h7.poke f7 o7 zn, (nc.trans n7).poke hD, upd_same, ?_, ?_, f7, o7, q6⟩
      · refine rp_bothF (rc.mono (fF_mono n7.ex)) r6
      · rw [List.length_append, List.length_singleton]; omega
    | false =>
      show (if false = true then _ else _)
      rw [if_neg Bool.false_ne_true]
      obtain ⟨h7, n7, e7, f7, o7⟩ := back h5 x5
      exact ⟨F5, rs Γc Γ5 vs, acc, f, vals, h7, nc.trans n7, e7, rc.mono (fF_mono n7.ex), by omega, f7, o7, q5⟩
  · have e : i = items.length := by omega
    subst e
    rw [List.drop_length] at q2
    obtain ⟨de, q2⟩ := q2
    obtain ⟨_, it2⟩ := it items.length Fc Hc σ Γc nc.ex hc (dpo de)
    exact .inl ⟨it2 (Nat.le_refl _), eq D0 Fc Hc Γc acc f vals hc (x1.trans nc) fD zn oD eD rc hH q2⟩
/-- a list that is not frozen yet becomes frozen -/
theorem Hd.frz {R : Rl} {F H : Hp} {σ : L2.St} {Γ : En} (h : Hd R F H σ Γ) {p : Addr} {u : HO} (hF : F p = none) (ho : ¬ Ow σ Γ p) (h0 : R.H0 p = none) (hH : H p = some u) : Hd R (upd F p u) H σ Γ ∧ ∀ fr, fF R (upd F p u) fr p = some u := by
  have xF : Ex F (upd F p u) := Ex.new hF
  refine ⟨{ sub := fun a w e => ?_, base := h.base, f0 := fun a w e => xF _ _ (h.f0 a w e), new := fun a w e => ?_, iof := fun a e => ?_, len := h.len, sl := fun j t e => ?_, sep := h.sep }, fun fr => ?_⟩
  · by_cases ha : a = p
    · rw [ha, upd_same] at e
      cases e
      rw [ha]
      exact .inl hH
    · rw [upd_ne ha] at e
      exact h.sub a w e
  · by_cases ha : a = p
    · rw [ha]; exact .inr h0
    · rw [upd_ne ha] at e
      exact h.new a w e
  · obtain ⟨h1, h2, h3⟩ := h.iof a e
    refine ⟨?_, h2, h3⟩
    have ne : a ≠ p := fun z => h2 (by rw [z]; exact h0)
    rw [upd_ne ne]
    exact h1
  · obtain ⟨v, e1, q⟩ := h.sl j t e
    refine ⟨v, e1, ?_⟩
    cases t with
    | dat d fr2 => exact Rp.mono (fF_mono xF) q
    | raw u => exact q
    | scr ns => exact q
    | old d => exact q
    | own o2 fr2 =>
      obtain ⟨p2, e2, e3', e4', tq2⟩ := q
      have ne : p2 ≠ p := fun z => ho ⟨j, _, e, rfl, by rw [e1, e2, z]⟩
      exact ⟨p2, e2, by rw [upd_ne ne]; exact e3', e4', tq2.mono (fF_mono xF) fun u2 k => k⟩
    | ino o2 =>
      obtain ⟨p2, e2, e3', tq2⟩ := q
      exact ⟨p2, e2, e3', tq2.mono xF fun u2 k => k⟩
  · cases fr with
    | true => show nw R.H0 (upd F p u) p = some u; rw [nw_at h0, upd_same]
    | false => exact upd_same
variable {elt tg iter : Expr} {ifs : List Expr} {scope : Scope} {own : List (Str × Nat)} {pos spos p : Pos} {x : Str} {sl : List Nat} {w : WI} {wg : WG} {wt : WT} {we : WE}
theorem pw_lc (hc : X.calm = true) (hN : X.N.Nodup) (ok : BlkOk X.N X.env.scope scope own) (hi : PWI X E tg iter w) (hg : Blk X scope fun Y => PWG Y sl tg wg) (ht : Blk X scope fun Y => PWTs Y E0 ifs wt) (he : Blk X scope fun Y => PWE Y E0 elt we) (hsl : ∀ j ∈ sl, j ∈ own.map (·.2))
    (hs : ∀ x, foldedSetIterable iter X.env x = pure x := by intro _; rfl) : PWE X E (.ListComp elt [⟨tg, iter, ifs, 0⟩] scope pos) (wLc w wg wt we (own.map (·.2))) := by
  obtain ⟨wi, pi, ki⟩ := hi
  obtain ⟨g, pg, kg⟩ := blk_g hg
  obtain ⟨tt, ptt, kt⟩ := blk_t ht
  obtain ⟨te, pte, ke⟩ := blk_e he
  refine ⟨_, pe_lc hc hN pi ok pg ptt pte hs, fun R F H σ Γ ex Q Qt gg h eq q => ?_⟩
  refine lc_run ki kg kt ke hsl gg h (fun p F' H' Γ' ds fr vals h' x' f' z' o' e' r' n' q' => ?_) q
  obtain ⟨h2, at_⟩ := h'.frz f' o' z' e'
  have xF : Ex F' (upd F' p (.lst vals)) := Ex.new f'
  refine eq _ _ H' Γ' (.lst ds) fr h2 ⟨x'.ex.trans xF, x'.keep, x'.ow, fun a u e => ?_, x'.stay⟩ (.lst (at_ fr) (r'.mono (fF_mono xF))) q'
  by_cases ha : a = p
  · rw [ha]; exact .inr (.inl n')
  · rw [upd_ne ha] at e
    exact x'.new a u e
/-- name = [..] on one line -/
theorem pws_setLc {py : Pos} (i : Nat) (hc : X.calm = true) (hN : X.N.Nodup) (ok : BlkOk X.N X.env.scope scope own) (hi : PWI X E tg iter w) (hg : Blk X scope fun Y => PWG Y sl tg wg) (ht : Blk X scope fun Y => PWTs Y E0 ifs wt) (he : Blk X scope fun Y => PWE Y E0 elt we) (hsl : ∀ j ∈ sl, j ∈ own.map (·.2))
    (hsw : swapsWith (.ListComp elt [⟨tg, iter, ifs, 0⟩] scope pos) (some (.Name x py)) spos.line X.env = pure true) (hxi : X.N[i]? = some x := by rfl) (hxl : X.env.scope.names.lookup x = some .local := by rfl)
    (hs : ∀ x, foldedSetIterable iter X.env x = pure x := by intro _; rfl) : PWS X E (.Assign [.Name x py] (.ListComp elt [⟨tg, iter, ifs, 0⟩] scope pos) spos) (wSet i (wLc w wg wt we (own.map (·.2)))) := by
  obtain ⟨wi, pi, ki⟩ := hi
  obtain ⟨g, pg, kg⟩ := blk_g hg
  obtain ⟨tt, ptt, kt⟩ := blk_t ht
  obtain ⟨te, pte, ke⟩ := blk_e he
  refine ⟨_, ps_setLc hc hN hxi hxl hsw pi ok pg ptt pte hs, fun R F H σ Γ P T gg h s q => ?_⟩
  refine lc_run ki kg kt ke hsl gg h (fun p F' H' Γ' ds fr vals h' x' f' z' o' e' r' n' q' => ?_) q
  obtain ⟨h2, at_⟩ := h'.frz f' o' z' e'
  have xF : Ex F' (upd F' p (.lst vals)) := Ex.new f'
  exact s.nx _ H' _ _ (h2.put (i := i) (s := .dat (.lst ds) fr) (show Rpf R _ fr _ _ from .lst (at_ fr) (r'.mono (fF_mono xF))) rfl) (x'.ex.trans xF) q'
/-- .. the list one's own -/
theorem pn_lc (hc : X.calm = true) (hN : X.N.Nodup) (ok : BlkOk X.N X.env.scope scope own) (hi : PWI X E tg iter w) (hg : Blk X scope fun Y => PWG Y sl tg wg) (ht : Blk X scope fun Y => PWTs Y E0 ifs wt) (he : Blk X scope fun Y => PWE Y E0 elt we) (hsl : ∀ j ∈ sl, j ∈ own.map (·.2))
    (hs : ∀ x, foldedSetIterable iter X.env x = pure x := by intro _; rfl) : PWN X E (.ListComp elt [⟨tg, iter, ifs, 0⟩] scope pos) (wLc w wg wt we (own.map (·.2))) := by
  obtain ⟨wi, pi, ki⟩ := hi
  obtain ⟨g, pg, kg⟩ := blk_g hg
  obtain ⟨tt, ptt, kt⟩ := blk_t ht
  obtain ⟨te, pte, ke⟩ := blk_e he
  refine ⟨_, pe_lc hc hN pi ok pg ptt pte hs, fun R F H σ Γ ex Q Qt gg h eq q => ?_⟩
  refine lc_run ki kg kt ke hsl gg h (fun p F' H' Γ' ds fr vals h' x' f' z' o' e' r' n' q' => ?_) q
  exact eq p F' H' Γ' (.lst ds) fr h' x' n' ⟨p, rfl, f', z', vals, e', r'⟩ o' q'
theorem pws_setLcO {py : Pos} (i : Nat) (hc : X.calm = true) (hN : X.N.Nodup) (ok : BlkOk X.N X.env.scope scope own) (hi : PWI X E tg iter w) (hg : Blk X scope fun Y => PWG Y sl tg wg) (ht : Blk X scope fun Y => PWTs Y E0 ifs wt) (he : Blk X scope fun Y => PWE Y E0 elt we) (hsl : ∀ j ∈ sl, j ∈ own.map (·.2))
    (hsw : swapsWith (.ListComp elt [⟨tg, iter, ifs, 0⟩] scope pos) (some (.Name x py)) spos.line X.env = pure true) (hxi : X.N[i]? = some x := by rfl) (hxl : X.env.scope.names.lookup x = some .local := by rfl)
    (hs : ∀ x, foldedSetIterable iter X.env x = pure x := by intro _; rfl) : PWS X E (.Assign [.Name x py] (.ListComp elt [⟨tg, iter, ifs, 0⟩] scope pos) spos) (wSetO i (wLc w wg wt we (own.map (·.2)))) := by
  obtain ⟨wi, pi, ki⟩ := hi
  obtain ⟨g, pg, kg⟩ := blk_g hg
  obtain ⟨tt, ptt, kt⟩ := blk_t ht
  obtain ⟨te, pte, ke⟩ := blk_e he
  refine ⟨_, ps_setLc hc hN hxi hxl hsw pi ok pg ptt pte hs, fun R F H σ Γ P T gg h s q => ?_⟩
  refine lc_run ki kg kt ke hsl gg h (fun p F' H' Γ' ds fr vals h' x' f' z' o' e' r' n' q' => ?_) q
  exact s.nx _ H' _ _ (h'.putOwn (i := i) (o := .lst ds) (fr := fr) ⟨p, rfl, f', z', vals, e', r'⟩ o') x'.ex q'
end
end Y

/-! Y: part 11: a def's promise from its pure law; calls that change their first argument. -/
namespace Y
open PySem PySem.Spec PyProof.Rows L2

def startD (N : List Str) (ds : List D) : En := ds.map (fun d => some (.dat d false)) ++ List.replicate (N.length - ds.length) none
theorem gt_get : ∀ {Γ : En} {i : Nat} {s : Sl}, gt Γ i = some s → Γ[i]? = some (some s)
  | [], _, _, h => by cases h
  | a :: r, 0, s, h => by
    have h' : a = some s := h
    rw [h']; rfl
  | a :: r, n + 1, s, h => by
    have h' : gt r n = some s := h
    rw [List.getElem?_cons_succ]
    exact gt_get h'
theorem startD_get {N : List Str} {ds : List D} {i : Nat} {s : Sl} (h : gt (startD N ds) i = some s) : ∃ d, ds[i]? = some d ∧ s = .dat d false := by
  have e := gt_get h
  unfold startD at e
  by_cases hi : i < ds.length
  · rw [List.getElem?_append_left (by simpa using hi), List.getElem?_map] at e
    cases q : ds[i]? with
    | none => rw [q] at e; cases e
    | some d =>
      rw [q] at e
      have e' := Option.some.inj (Option.some.inj e)
      exact ⟨d, rfl, e'.symm⟩
  · rw [List.getElem?_append_right (by simpa using hi), List.getElem?_replicate] at e
    split at e <;> cases e
theorem start_get {N : List Str} {vs : List V} {i : Nat} {v : V} (h : vs[i]? = some v) : (L2.start N vs)[i]? = some (some v) := by
  obtain ⟨hi, _⟩ := List.getElem?_eq_some_iff.mp h
  unfold L2.start
  rw [List.getElem?_append_left (by simpa using hi), List.getElem?_map, h]
  rfl
/-- the state at a def's entry -/
theorem Hd.start0 {K : PySem.W.Frag} {H F : Hp} {N : List Str} {vs : List V} {ds : List D} (sub : ∀ a u, F a = some u → RdD H a u) (r : RpAll F vs ds) : Hd ⟨K, H, F, none, XT⟩ F H (L2.start N vs) (startD N ds) where
  sub := sub
  base := fun a o e _ => e
  f0 := fun a u e => e
  new := fun a u e => .inl e
  iof := fun a e => by cases e
  len := by
    have l := r.length
    unfold startD L2.start
    rw [List.length_append, List.length_map, List.length_replicate, List.length_append, List.length_map, List.length_replicate, l]
  sl := fun i s e => by
    obtain ⟨d, e1, e2⟩ := startD_get e
    subst e2
    obtain ⟨v, e3, rv⟩ := r.get e1
    exact ⟨v, start_get e3, rv⟩
  sep := fun i j s t p e1 e2 o1 o2 p1 p2 => by
    obtain ⟨d, _, e⟩ := startD_get e1
    subst e
    cases o1

section
variable {P : Program} {w : World} {K : PySem.W.Frag} {mg : Str → Option Value} {base : Heap} {k : Nat} {f : Addr} {x qual : Str} {params : Arguments} {body : List Stmt} {scope : Scope} {fd : FuncData} {N ps : List Str}
/-- a body's context -/
abbrev bX (P : Program) (w : World) (K : PySem.W.Frag) (mg : Str → Option Value) (base : Heap) (N : List Str) (qual : Str) (scope : Scope) (f : Addr) (cdv : Value) (A : Around) (outer : List Env) (s : Shared) (H : Hp) (E : XK) : Cx :=
  cxOf (L2.CX P w) P w K mg base N qual scope f cdv A outer s H E
theorem pass_fn {cdv : Value} {A : Around} {outer : List Env} {s : Shared} {H : Hp} {E : XK} : Passes (L2.CX P w) (bX P w K mg base N qual scope f cdv A outer s H E) E :=
  passes_call (W := fun cls d _ H => E cls d H) (takes_of (E := E) rfl rfl rfl rfl) fun _ _ _ _ h => h
theorem own_fn {cdv : Value} {A : Around} {outer : List Env} {s : Shared} {H : Hp} {E : XK} : PassesOwn (model P w) (A.deeper (envOfC qual scope s.heap.objs.size f cdv)) (envOfC qual scope s.heap.objs.size f cdv) (bX P w K mg base N qual scope f cdv A outer s H E).xe := PassesOwn.leaving
theorem pass0 {X : Cx} : Passes (L2.CX X.prog X.w) X E0 := fun _ _ _ _ _ _ _ h => by
  obtain ⟨a, B, H', cls, d, e1, e2, e3, e4, e5, e6, e7, e8⟩ := h
  exact e8.elim
/-- a def's promise by data -/
theorem fn_pure {fs : FS} {wb : WS} (Fd : FunD K x qual params body scope [] [] f fd) (S : FnScope N ps scope) (len : ∀ ds Q ex, fs ds Q ex → ds.length = ps.length)
    (hb : ∀ (cdv : Value) (A : Around) (outer : List Env) (s : Shared) (H : Hp) (E : XK), (A.deeper (envOfC qual scope s.heap.objs.size f cdv)).guards = some [] → Room k (A.deeper (envOfC qual scope s.heap.objs.size f cdv)) →
      PWSs (bX P w K mg base N qual scope f cdv A outer s H E) E body wb)
    (pure : ∀ ds Q ex, fs ds Q ex → wb { nx := fun _ => Q .non true, rt := fun d fr _ => Q d fr, xe := ex } (startD N ds)) : FnG P w K mg base (k + 1) f fd ps (spF mg fs) := by
  refine fnG_of Fd S (fun vs H Q E h => ?_) fun cdv A outer s H vs Q E hg hr h => ?_
  · obtain ⟨F, ds, Qd, ex, sub, r, hf, _⟩ := h
    rw [r.length]
    exact len _ _ _ hf
  · obtain ⟨F, ds, Qd, ex, sub, r, hf, hq, he⟩ := h
    obtain ⟨t, pt, kt⟩ := hb cdv A outer s H E hg hr
    refine ⟨t, pt, kt ⟨K, H, F, none, XT⟩ F H (L2.start N vs) (startD N ds) { nx := fun _ => Qd .non true, rt := fun d fr _ => Qd d fr, xe := ex } _ ⟨rfl, ?_⟩ (Hd.start0 sub r) ?_ (pure ds Qd ex hf)⟩
    · exact fun c C dd v d F' H' hm hex hb xF sub rv hdd => he c C dd v d F' H' hm hex (fun a o e => hb a o e (fun z => by cases z)) xF sub rv hdd
    · have main : ∀ v F' H' σ' Γ' d fr, Hd ⟨K, H, F, none, XT⟩ F' H' σ' Γ' → Rpf ⟨K, H, F, none, XT⟩ F' fr v d → Qd d fr → Q v H' := fun v F' H' σ' Γ' d fr h' r' q =>
        hq v F' H' d fr (fun a o e => h'.base a o e (fun z => by cases z)) h'.f0 h'.sub h'.new (by cases fr <;> exact r') q
      exact ⟨fun F' H' σ' Γ' h' x q => main .non F' H' σ' Γ' .non true h' .non q, fun v F' H' σ' Γ' d fr h' x r' q => main v F' H' σ' Γ' d fr h' r' q, fun _ _ _ _ _ _ z => z.elim, fun _ _ _ _ _ _ z => z.elim⟩
end

/-! ### calls that change their first argument, a list of flat things -/
theorem flt_all {F F' : Hp} : ∀ {vs : List V} {ds : List D}, ds.all flt = true → RpAll F vs ds → RpAll F' vs ds
  | _, _, _, .nil => .nil
  | _, _, h, .cons a r => by
    rw [List.all_cons, Bool.and_eq_true] at h
    exact .cons (flt_rp h.1 a) (flt_all h.2 r)
abbrev H00 : Hp := fun _ => none
/-- the list's content, the other arguments, what is wanted of: its new content, the value -/
abbrev FSM := List D → List D → (List D → D → Bool → Prop) → Prop
def spM (fs : FSM) : Sp := fun vs H Qv _ => ∃ (p : Addr) (us : List V) (vr : List V) (F : Hp) (os ds : List D) (Q : List D → D → Bool → Prop), vs = .ref p :: vr ∧ H p = some (.lst us) ∧ F p = none ∧ RpAll H00 us os ∧ (∀ a u, F a = some u → RdD H a u) ∧ RpAll F vr ds ∧ fs os ds Q ∧
  ∀ v F' H' d fr us' os', (∀ a o, H a = some o → a ≠ p → H' a = some o) → Ex F F' → (∀ a u, F' a = some u → RdD H' a u) → (∀ a u, F' a = some u → F a = some u ∨ H a = none) → F' p = none → H' p = some (.lst us') → RpAll H00 us' os' →
    Rp (match fr with | true => nw H F' | false => F') v d → Q os' d fr → Qv v H'
def startM (N : List Str) (os ds : List D) : En := some (.ino (.lst os)) :: (ds.map (fun d => some (.dat d false)) ++ List.replicate (N.length - 1 - ds.length) none)
theorem startM_get {N : List Str} {os ds : List D} {i : Nat} {s : Sl} (h : gt (startM N os ds) i = some s) : (i = 0 ∧ s = .ino (.lst os)) ∨ ∃ j d, i = j + 1 ∧ ds[j]? = some d ∧ s = .dat d false := by
  cases i with
  | zero =>
    have h' : some (Sl.ino (.lst os)) = some s := h
    exact .inl ⟨rfl, (Option.some.inj h').symm⟩
  | succ j =>
    have h' : gt (ds.map (fun d => some (.dat d false)) ++ List.replicate (N.length - 1 - ds.length) none) j = some s := h
    have e := gt_get h'
    by_cases hi : j < ds.length
    · rw [List.getElem?_append_left (by simpa using hi), List.getElem?_map] at e
      cases q : ds[j]? with
      | none => rw [q] at e; cases e
      | some d =>
        rw [q] at e
        have e' := Option.some.inj (Option.some.inj e)
        exact .inr ⟨j, d, rfl, q, e'.symm⟩
    · rw [List.getElem?_append_right (by simpa using hi), List.getElem?_replicate] at e
      split at e <;> cases e
theorem Hd.startI {K : PySem.W.Frag} {H F : Hp} {N : List Str} {p : Addr} {us vr : List V} {os ds : List D} (hp : H p = some (.lst us)) (fp : F p = none) (ro : RpAll H00 us os) (sub : ∀ a u, F a = some u → RdD H a u) (r : RpAll F vr ds) :
    Hd ⟨K, H, F, some p, XT⟩ F H (L2.start N (.ref p :: vr)) (startM N os ds) where
  sub := sub
  base := fun a o e _ => e
  f0 := fun a u e => e
  new := fun a u e => .inl e
  iof := fun a e => by
    cases e
    refine ⟨fp, ?_, ?_⟩
    · show H p ≠ none
      rw [hp]; simp
    · rw [hp]; simp
  len := by
    have l := r.length
    unfold startM L2.start
    simp [l]
    omega
  sl := fun i s e => by
    rcases startM_get e with ⟨e1, e2⟩ | ⟨j, d, e1, e2, e3⟩
    · subst e1
      subst e2
      exact ⟨.ref p, rfl, p, rfl, rfl, us, hp, ro.mono fun _ _ z => by cases z⟩
    · subst e1
      subst e3
      obtain ⟨v, e3, rv⟩ := r.get e2
      exact ⟨v, start_get (by rw [List.getElem?_cons_succ]; exact e3), rv⟩
  sep := fun i j s t q e1 e2 o1 o2 p1 p2 => by
    rcases startM_get e1 with ⟨z1, _⟩ | ⟨_, _, _, _, z⟩
    · rcases startM_get e2 with ⟨z2, _⟩ | ⟨_, _, _, _, z⟩
      · rw [z1, z2]
      · subst z; cases o2
    · subst z; cases o1
/-- the content of the list of slot i, flat -/
@[reducible] def inoQ (Γ : En) (Q : List D → Prop) : Prop := match gt Γ 0 with
  | some (.ino (.lst os)) => os.all flt = true ∧ Q os
  | _ => False
section
variable {P : Program} {w : World} {K : PySem.W.Frag} {mg : Str → Option Value} {base : Heap} {k : Nat} {f : Addr} {x qual : Str} {params : Arguments} {body : List Stmt} {scope : Scope} {fd : FuncData} {N ps : List Str}
theorem fn_pureM {fs : FSM} {wb : WS} (Fd : FunD K x qual params body scope [] [] f fd) (S : FnScope N ps scope) (len : ∀ os ds Q, fs os ds Q → ds.length + 1 = ps.length)
    (hb : ∀ (cdv : Value) (A : Around) (outer : List Env) (s : Shared) (H : Hp) (E : XK), (A.deeper (envOfC qual scope s.heap.objs.size f cdv)).guards = some [] → Room k (A.deeper (envOfC qual scope s.heap.objs.size f cdv)) →
      PWSs (bX P w K mg base N qual scope f cdv A outer s H E) E body wb)
    (pure : ∀ os ds Q, fs os ds Q → wb { nx := fun Γ => inoQ Γ fun o => Q o .non true, rt := fun d fr Γ => inoQ Γ fun o => Q o d fr } (startM N os ds)) : FnG P w K mg base (k + 1) f fd ps (spM fs) := by
  refine fnG_of Fd S (fun vs H Q E h => ?_) fun cdv A outer s H vs Q E hg hr h => ?_
  · obtain ⟨p, us, vr, F, os, ds, Qd, e, _, _, _, _, r, hf, _⟩ := h
    subst e
    rw [← len _ _ _ hf, List.length_cons, r.length]
  · obtain ⟨p, us, vr, F, os, ds, Qd, e, hp, fp, ro, sub, r, hf, hq⟩ := h
    subst e
    obtain ⟨t, pt, kt⟩ := hb cdv A outer s H E hg hr
    refine ⟨t, pt, kt ⟨K, H, F, some p, XT⟩ F H (L2.start N (.ref p :: vr)) (startM N os ds) { nx := fun Γ => inoQ Γ fun o => Qd o .non true, rt := fun d fr Γ => inoQ Γ fun o => Qd o d fr } _ ⟨rfl, fun _ _ _ _ _ _ _ _ h => h.elim⟩ (Hd.startI hp fp ro sub r) ?_ (pure os ds Qd hf)⟩
    have main : ∀ v F' H' σ' Γ' d fr, Hd ⟨K, H, F, some p, XT⟩ F' H' σ' Γ' → Rpf ⟨K, H, F, some p, XT⟩ F' fr v d → (inoQ Γ' fun o => Qd o d fr) → Q v H' := fun v F' H' σ' Γ' d fr h' r' q => by
      unfold inoQ at q
      cases g0 : gt Γ' 0 with
      | none => simp only [g0] at q
      | some s =>
        cases s with
        | ino o =>
          cases o with
          | lst os' =>
            simp only [g0] at q
            obtain ⟨v2, _, p2, _, e3, us', e4, r4⟩ := h'.sl 0 _ g0
            have e5 : p2 = p := by
              have e3' : (some p : Option Addr) = some p2 := e3
              exact (Option.some.inj e3').symm
            subst e5
            exact hq v F' H' d fr us' os' (fun a o e n => h'.base a o e (fun z => n (Option.some.inj z).symm)) h'.f0 h'.sub h'.new (h'.iof p2 rfl).1 e4 (flt_all q.1 r4) (by cases fr <;> exact r') q.2
          | _ => simp only [g0] at q
        | _ => simp only [g0] at q
    exact ⟨fun F' H' σ' Γ' h' x q => main .non F' H' σ' Γ' .non true h' .non q, fun v F' H' σ' Γ' d fr h' x r' q => main v F' H' σ' Γ' d fr h' r' q, fun _ _ _ _ _ _ z => z.elim, fun _ _ _ _ _ _ z => z.elim⟩
end
section
variable {X : Cx} {E : XK} {e a b c : Expr} {es : List Expr} {pos p : Pos} {x : Str}
/-- f(x, ..): x's list is changed -/
@[reducible] def wCallM (i : Nat) (fs : FSM) (wr : WA) : WE := fun ex Γ Q => hasL Γ i ∧ wr ex Γ fun ds Γ1 => match ownAt Γ1 i with
  | some (.lst os, _) => os.all flt = true ∧ fs os (ds.map (·.1)) fun os' d fr => Q d fr (ownTo Γ1 i (.lst os') true)
  | _ => False
theorem upd_self {H : Hp} {p : Addr} {o : HO} (h : H p = some o) : upd H p o = H := by
  funext a
  by_cases ha : a = p
  · rw [ha, upd_same, h]
  · rw [upd_ne ha]
theorem ok_callM {i : Nat} {fs : FSM} {wr : WA} {t : TA} (kt : SA X E t wr) : SE X E (tCall (spM fs) [] E (tCons (tVar i) t)) (wCallM i fs wr) := by
  intro R F H σ Γ ex Q Qt g h eq w
  obtain ⟨hl, w⟩ := w
  obtain ⟨p, vs, ds, f, _, s, e1, _⟩ := hl.get h
  refine ⟨.ref p, s.at_, ?_⟩
  refine kt R F H σ Γ ex _ _ g h (fun vs F1 H1 Γ1 ds h1 x1 r1 w1 => ?_) w
  cases q : ownAt Γ1 i with
  | none => simp only [q] at w1
  | some z =>
    obtain ⟨d2, f2⟩ := z
    cases d2 with
    | lst os =>
      simp only [q] at w1
      obtain ⟨hf, w1⟩ := w1
      obtain ⟨p2, s2⟩ := own_st h1 q
      obtain ⟨us, e2, r2⟩ := s2.top
      have ep : p2 = p := by
        have z1 := s.at_
        rw [s2.at_] at z1
        cases z1
        rfl
      subst ep
      show spM fs ((.ref p2 :: vs) ++ []) H1 Qt E
      rw [List.append_nil]
      refine ⟨p2, us, vs, F1, os, ds.map (·.1), _, rfl, e2, s2.fn, flt_all hf r2, h1.sub, r1.plain, w1, fun v F2 H2 d fr us' os' kp xF sub new fp hp ro r q' => ?_⟩
      -- the heap with the list as it was
      have xH : Ex H1 (upd H2 p2 (.lst us)) := fun a o e => by
        by_cases ha : a = p2
        · rw [ha, upd_same, ← e2, ← ha, e]
        · rw [upd_ne ha]
          exact kp a o e ha
      have sub2 : ∀ a u, F2 a = some u → RdD (upd H2 p2 (.lst us)) a u := fun a u e => by
        have ne : a ≠ p2 := fun z => by rw [z, fp] at e; cases e
        rcases sub a u e with y | ⟨y, o, y2⟩
        · exact .inl (by rw [upd_ne ne]; exact y)
        · exact .inr ⟨y, o, by rw [upd_ne ne]; exact y2⟩
      obtain ⟨h3, r3⟩ := h1.called xH xF sub2 new r
      obtain ⟨p3, s3⟩ := own_st h3 q
      have ep : p3 = p2 := by
        have z1 := s2.at_
        rw [s3.at_] at z1
        cases z1
        rfl
      subst ep
      have t : TopH (fF R F2 true) (upd (upd H2 p3 (.lst us)) p3 (.lst us')) p3 (.lst os') := ⟨_, upd_same, ro.mono fun _ _ z => by cases z⟩
      have h4 := (s3.to_ _ _ _ t).1
      have n4 := s3.nx t
      rw [upd_upd, upd_self hp] at h4 n4
      exact eq v F2 H2 _ d fr h4 ((x1.trans (.grow xF xH new)).trans n4) r3 q'
    | _ => simp only [q] at w1
theorem pw_callM {k : Nat} {f : Addr} {fd : FuncData} {ps : List Str} {fs : FSM} {wr : WA} {y : Str} {py : Pos} (i : Nat) (Fn : FnG X.prog X.w X.K X.mg X.base k f fd ps (spM fs)) (hgd : X.A.guards = some []) (hr : Room k X.A) (hm : X.mg x = some (.ref f)) (hk : PySem.W.keepIn X.K (.ref f) = true) (hb : Binds X.K fd ps [])
    (hx : Passes (L2.CX X.prog X.w) X E) (ha : PWA X E es wr) (hN : X.N[i]? = some y := by rfl) (hv : Vis X.env.scope y := by first | exact Or.inl rfl | exact Or.inr (Or.inl rfl) | exact Or.inr (Or.inr rfl)) (hd : (y == ("__debug__" : Str)) = false := by decide) (hcd : (y == ("__classdict__" : Str)) = false := by decide)
    (hg : Gl X x := by rfl) (hdb : (x == ("__debug__" : Str)) = false := by decide) (he : starEach (.Name y py :: es) X.env = (false, eval (.Name y py) X.env) :: starEach es X.env := by rfl) (hpl : (backTo pos (starEach es X.env)).any (·.1) = false := by rfl) :
    PWE X E (.Call (.Name x p) (.Name y py :: es) [] pos) (wCallM i fs wr) := by
  obtain ⟨t, pt, kt⟩ := ha
  exact ⟨_, pe_fnG Fn hgd hr hm hk hb hx (pa_cons (pe_var hN hv hd hcd) pt he) hg hdb he hpl, ok_callM kt⟩
end
end Y

/-! Y: part 12: dicts: stores, displays, comprehensions. -/
namespace Y
open PySem PySem.Spec PyProof.Rows L2

/-! ### stores -/
theorem rpK_any {F : Hp} {k : Key} : ∀ {vs : List (Key × V)} {ds : List (Key × D)}, RpK F vs ds → (vs.any fun kv => decide (kv.1 = k)) = (ds.any fun kv => decide (kv.1 = k))
  | _, _, .nil => rfl
  | _, _, .cons _ r => by rw [List.any_cons, List.any_cons, rpK_any r]
theorem rpT_any {F : Hp} {k : List Key} : ∀ {vs : List (List Key × V)} {ds : List (List Key × D)}, RpT F vs ds → (vs.any fun kv => decide (kv.1 = k)) = (ds.any fun kv => decide (kv.1 = k))
  | _, _, .nil => rfl
  | _, _, .cons _ r => by rw [List.any_cons, List.any_cons, rpT_any r]
theorem rpK_map {F : Hp} {k : Key} {v : V} {d : D} (h : Rp F v d) : ∀ {vs : List (Key × V)} {ds : List (Key × D)}, RpK F vs ds → RpK F (vs.map fun kv => if kv.1 = k then (kv.1, v) else kv) (ds.map fun kv => if kv.1 = k then (kv.1, d) else kv)
  | _, _, .nil => .nil
  | _, _, .cons (k := j) a r => by
    rw [List.map_cons, List.map_cons]
    by_cases e : j = k
    · rw [if_pos (show (j, _).1 = k from e), if_pos (show (j, _).1 = k from e)]
      exact .cons h (rpK_map h r)
    · rw [if_neg (show ¬ (j, _).1 = k from e), if_neg (show ¬ (j, _).1 = k from e)]
      exact .cons a (rpK_map h r)
theorem rpT_map {F : Hp} {k : List Key} {v : V} {d : D} (h : Rp F v d) : ∀ {vs : List (List Key × V)} {ds : List (List Key × D)}, RpT F vs ds → RpT F (vs.map fun kv => if kv.1 = k then (kv.1, v) else kv) (ds.map fun kv => if kv.1 = k then (kv.1, d) else kv)
  | _, _, .nil => .nil
  | _, _, .cons (k := j) a r => by
    rw [List.map_cons, List.map_cons]
    by_cases e : j = k
    · rw [if_pos (show (j, _).1 = k from e), if_pos (show (j, _).1 = k from e)]
      exact .cons h (rpT_map h r)
    · rw [if_neg (show ¬ (j, _).1 = k from e), if_neg (show ¬ (j, _).1 = k from e)]
      exact .cons a (rpT_map h r)
theorem rpK_app {F : Hp} : ∀ {vs ws : List (Key × V)} {ds es : List (Key × D)}, RpK F vs ds → RpK F ws es → RpK F (vs ++ ws) (ds ++ es)
  | _, _, _, _, .nil, h => h
  | _, _, _, _, .cons a r, h => .cons a (rpK_app r h)
theorem rpT_app {F : Hp} : ∀ {vs ws : List (List Key × V)} {ds es : List (List Key × D)}, RpT F vs ds → RpT F ws es → RpT F (vs ++ ws) (ds ++ es)
  | _, _, _, _, .nil, h => h
  | _, _, _, _, .cons a r, h => .cons a (rpT_app r h)
theorem rpK_put {F : Hp} {k : Key} {v : V} {d : D} {vs : List (Key × V)} {ds : List (Key × D)} (r : RpK F vs ds) (h : Rp F v d) : RpK F (putK vs k v) (putD ds k d) := by
  unfold putK putD
  rw [rpK_any r]
  split
  · exact rpK_map h r
  · exact rpK_app r (.cons h .nil)
theorem rpT_put {F : Hp} {k : List Key} {v : V} {d : D} {vs : List (List Key × V)} {ds : List (List Key × D)} (r : RpT F vs ds) (h : Rp F v d) : RpT F (putK vs k v) (putD ds k d) := by
  unfold putK putD
  rw [rpT_any r]
  split
  · exact rpT_map h r
  · exact rpT_app r (.cons h .nil)
theorem rpT_length {F : Hp} : ∀ {vs : List (List Key × V)} {ds : List (List Key × D)}, RpT F vs ds → vs.length = ds.length
  | _, _, .nil => rfl
  | _, _, .cons _ r => congrArg (· + 1) (rpT_length r)
@[reducible] def kPut (o y d : D) (Q : D → Prop) : Prop := match o with
  | .lst ds => (match y with
    | .int k => (match ixN ds.length k with
      | some j => Q (.lst (ds.set j d))
      | none => False)
    | _ => False)
  | .dk kvs => (match keyOf y with
    | some k => kvs.length < sizeLine ∧ Q (.dk (putD kvs k d))
    | none => False)
  | .dt kvs => (match y with
    | .tup ks => (match keysOf ks with
      | some k => kvs.length < sizeLine ∧ Q (.dt (putD kvs k d))
      | none => False)
    | _ => False)
  | _ => False
def rSetAll : TSet := fun o i v H Q => rSetL o i v H Q ∨ rSetD o i v H Q
section
variable {X : Cx} {E : XK} {e a b c : Expr} {es : List Expr} {pos p : Pos} {x : Str} {wa wb wc : WE} {va vb : WV}
theorem set_all (hu : X.A.units + 1 < cLine) : PSet X rSetAll := by
  intro pins s σ H o i v ov iv u Q I ro ri rv h
  rcases h with h | h
  · exact set_list pins s σ H o i v ov iv u Q I ro ri rv h
  · exact set_dict hu pins s σ H o i v ov iv u Q I ro ri rv h
def keyD (d : D) (f : Bool) : Bool := true
theorem rpb {R : Rl} {F : Hp} {f fr : Bool} {v : V} {d : D} (rv : Rpf R F fr v d) : Rpf R F (f && fr) v d := by
  cases f with
  | true => exact rv
  | false => exact rv.mono fF_ex
theorem ex_and {R : Rl} {F : Hp} {f fr : Bool} : Ex (fF R F f) (fF R F (f && fr)) := by
  cases f with
  | true => cases fr with
    | true => exact Ex.refl _
    | false => exact nw_ex
  | false => exact Ex.refl _
/-- the store into a thing of one's own: what the heap does -/
theorem put_core {R : Rl} {F H : Hp} {σ : L2.St} {Γ : En} {i : Nat} {o : D} {f : Bool} {p : Addr} (h : Hd R F H σ Γ) (s : OwnSt R F H σ Γ i o f p) {v y : V} {d dy : D} {fr fy : Bool} (rv : Rpf R F fr v d) (ry : Rpf R F fy y dy) {Q : D → Prop} (k : kPut o dy d Q) :
    ∃ u o', rSetAll (.ref p) y v H (fun H' => H' = upd H p u) ∧ TopH (fF R F (f && fr)) (upd H p u) p o' ∧ Q o' := by
  cases o with
  | lst ds => cases dy with
    | int n =>
      unfold kPut at k
      cases q2 : ixN ds.length n with
      | none => simp only [q2] at k
      | some j =>
        simp only [q2] at k
        obtain ⟨vs, e, r⟩ := s.top
        obtain ⟨ra, rb⟩ := rp_both r rv
        exact ⟨.lst (vs.set j v), .lst (ds.set j d), .inl ⟨p, vs, n, j, rfl, rp_int ry, e, by rw [r.length]; exact q2, rfl⟩, ⟨_, upd_same, ra.set rb j⟩, k⟩
    | _ => exact k.elim
  | dk kvs =>
    unfold kPut at k
    cases q : keyOf dy with
    | none => simp only [q] at k
    | some ky =>
      simp only [q] at k
      obtain ⟨vs, e, r⟩ := s.top
      have ey := keyOf_rp q ry
      subst ey
      exact ⟨.dK (putK vs ky v), .dk (putD kvs ky d), .inr ⟨p, _, rfl, .k e (by rw [rpK_length r]; exact k.1), rfl⟩, ⟨_, upd_same, rpK_put (r.mono ex_and) (rpb rv)⟩, k.2⟩
  | dt kvs => cases dy with
    | tup ks =>
      unfold kPut at k
      cases q : keysOf ks with
      | none => simp only [q] at k
      | some ky =>
        simp only [q] at k
        obtain ⟨vs, e, r⟩ := s.top
        have hy : ∃ b ws, y = .ref b ∧ H b = some (.tup ws) ∧ RpAll (fF R F fy) ws ks := by
          cases ry with
          | tup e r => exact ⟨_, _, rfl, RdD.tup (h.sub _ _ (fF_ex _ _ e)), r⟩
        obtain ⟨b, ws, e4, e5, rk⟩ := hy
        have ew := keysOf_rp q rk
        subst ew
        subst e4
        exact ⟨.dT (putK vs ky v), .dt (putD kvs ky d), .inr ⟨p, _, rfl, .t e e5 (by rw [rpT_length r]; exact k.1), rfl⟩, ⟨_, upd_same, rpT_put (r.mono ex_and) (rpb rv)⟩, k.2⟩
    | _ => exact k.elim
  | _ => exact k.elim
theorem rSetAll.mono {o i v : V} {H : Hp} {Q Q' : Hp → Prop} (h : rSetAll o i v H Q) (k : ∀ H', Q H' → Q' H') : rSetAll o i v H Q' := by
  rcases h with ⟨p, xs, n, j, h1, h2, h3, h4, q⟩ | ⟨a, H', h1, h2, q⟩
  · exact .inl ⟨p, xs, n, j, h1, h2, h3, h4, k _ q⟩
  · exact .inr ⟨a, H', h1, h2, k _ q⟩
/-- x[k] = e -/
@[reducible] def wPut (i : Nat) (wi we : WE) : WS := fun P Γ => we P.xe Γ fun d fr Γ1 => (∃ o, ownAt Γ1 i = some o) ∧ wi P.xe Γ1 fun y _ Γ2 => match ownAt Γ2 i with
  | some (o, f) => kPut o y d fun o' => P.nx (ownTo Γ2 i o' (f && fr))
  | _ => False
theorem pws_put (i : Nat) {py : Pos} (hu : X.A.units + 1 < cLine) (he : PWE X E e wa) (hk : PWE X E b wb) (hN : X.N[i]? = some x := by rfl) (hv : Vis X.env.scope x := by first | exact Or.inl rfl | exact Or.inr (Or.inl rfl) | exact Or.inr (Or.inr rfl)) (hd : (x == ("__debug__" : Str)) = false := by decide) (hcd : (x == ("__classdict__" : Str)) = false := by decide)
    (ha : ∀ v, assign (.Subscript (.Name x p) b py) X.env v = (do
      let ov ← holding [v] (eval (.Name x p) X.env)
      let iv ← holding [v, ov] (eval b X.env)
      standAt py
      holding [v, ov, iv] (setItem ov iv v)
      release [v, ov, iv] []) := by intro _; rfl)
    (hs : swapsWithSole [.Subscript (.Name x p) b py] e pos.line X.env = pure false := by rfl) (hw : swappedStores [.Subscript (.Name x p) b py] e X.env = pure none := by rfl)
    (h1 : (assignEach [.Subscript (.Name x p) b py] X.env).map (·.2) = [assign (.Subscript (.Name x p) b py) X.env] := by rfl) :
    PWS X E (.Assign [.Subscript (.Name x p) b py] e pos) (wPut i wb wa) := by
  obtain ⟨t, pt, kt⟩ := he
  obtain ⟨u, pu, ku⟩ := hk
  refine ⟨_, ps_asg pt (pg_sub (pe_var hN hv hd hcd) pu (set_all hu) ha) hs hw h1, fun R F H σ Γ P T g h s w => ?_⟩
  refine kt R F H σ Γ P.xe _ _ g h (fun v F1 H1 Γ1 d fr h1 x1 r1 w1 => ?_) w
  obtain ⟨⟨o, q0⟩, w1⟩ := w1
  obtain ⟨p1, s1⟩ := own_st (o := o.1) (fr := o.2) h1 q0
  refine ⟨.ref p1, s1.at_, ?_⟩
  refine ku R F1 H1 σ Γ1 P.xe _ _ g h1 (fun y F2 H2 Γ2 dy fy h2 x2 r2 w2 => ?_) w1
  cases q : ownAt Γ2 i with
  | none => simp only [q] at w2
  | some z =>
    obtain ⟨d2, f2⟩ := z
    simp only [q] at w2
    obtain ⟨p2, s2⟩ := own_st h2 q
    have ep : p2 = p1 := by
      have z1 := s1.at_
      rw [s2.at_] at z1
      cases z1
      rfl
    subst ep
    obtain ⟨u, o', hr, t, q3⟩ := put_core h2 s2 (r1.mono (fF_mono x2.ex)) r2 w2
    refine hr.mono fun H' e => ?_
    subst e
    exact s.nx F2 _ _ _ (s2.to_ _ _ _ t).1 (x1.trans x2).ex q3

/-! ### {k: v} -/
@[reducible] def wDisp1 (wk wv : WE) : WE := fun ex Γ Q => wk ex Γ fun y _ Γ1 => wv ex Γ1 fun d fr Γ2 => match keyOf y with
  | some k => Q (.dk [(k, d)]) fr Γ2
  | none => False
theorem pn_disp1 (ha : PWE X E a wa) (hb : PWE X E b wb) : PWN X E (.Dict [some a] [b] pos) (wDisp1 wa wb) := by
  obtain ⟨t, pt, kt⟩ := ha
  obtain ⟨u, pu, ku⟩ := hb
  refine ⟨_, pe_disp (pps_cons pt pu pps_nil) rfl rfl (by simp) (Nat.succ_le_succ (Nat.zero_le _)), fun R F H σ Γ ex Q Qt g h eq w => ?_⟩
  intro p hp
  obtain ⟨h0, f0, z0, n0⟩ := h.newO (o := .dK []) hp
  refine kt R F _ σ Γ ex _ _ g h0 (fun y F1 H1 Γ1 dy fy h1 x1 r1 w1 => ku R F1 H1 σ Γ1 ex _ _ g h1 (fun v F2 H2 Γ2 d fr h2 x2 r2 w2 => ?_) w1) w
  have x12 := x1.trans x2
  have e2 : H2 p = some (.dK []) := x12.keep p _ upd_same n0
  have n2 : ¬ Ow σ Γ2 p := fun z => n0 (x12.ow p z)
  have f2 : F2 p = none := by
    cases z : F2 p with
    | none => rfl
    | some u =>
      rcases x12.new p u z with q | q | q
      · rw [f0] at q; cases q
      · rw [upd_same] at q; cases q
      · exact absurd q n0
  cases q : keyOf dy with
  | none => simp only [q] at w2
  | some k =>
    simp only [q] at w2
    have ey := keyOf_rp q r1
    subst ey
    refine ⟨e2, [(k, v)], rfl, Nat.succ_le_succ (Nat.zero_le _), ?_⟩
    refine eq p F2 _ Γ2 (.dk _) fr (h2.poke f2 n2 z0) (Nx.poke ((Nx.refl.newO hp).trans x12) hp) hp ⟨p, rfl, f2, z0, _, upd_same, ?_⟩ n2 w2
    exact .cons r2 .nil

/-! ### {k: v for ..} -/
@[reducible] def dcGo (tg : WG) (tt : WT) (tk te : WE) (vs : List Nat) (dp : Dep) : List (D × Bool) → List (Key × D) → Bool → En → (List (Key × D) → Bool → En → Prop) → Prop
  | [], acc, f, Γ, K => depE Γ dp ∧ K acc f Γ
  | x :: xs, acc, f, Γ, K => depE Γ dp ∧ tg x.1 x.2 (wp Γ vs) fun Γ1 => tt ex0 Γ1 fun b Γ2 => ifB b (tk ex0 Γ2 fun y _ Γ3 => te ex0 Γ3 fun d fr Γ4 => (match keyOf y with
      | some k => dcGo tg tt tk te vs dp xs (putD acc k d) (f && fr) (rs Γ Γ4 vs) K
      | none => False)) (dcGo tg tt tk te vs dp xs acc f (rs Γ Γ2 vs) K)
@[reducible] def wDc (wi : WI) (tg : WG) (tt : WT) (tk te : WE) (vs : List Nat) : WE := fun ex Γ Q => wi ex Γ fun items dp Γ1 => items.length ≤ sizeLine ∧ dcGo tg tt tk te vs dp items [] true Γ1 fun ds f Γ2 => Q (.dk ds) f Γ2
theorem dc_run {wi : TI} {g : TG} {tt : TT} {tk te : TE} {w : WI} {wg : WG} {wt : WT} {wk we : WE} {vs sl : List Nat} (ki : SI X E wi w) (kg : SG X sl g wg) (kt : ST X E0 tt wt) (kk : SE X E0 tk wk) (ke : SE X E0 te we) (hsl : ∀ j ∈ sl, j ∈ vs)
    {R : Rl} {F H : Hp} {σ : L2.St} {Γ : En} {ex : EX} {Q : D → Bool → En → Prop} {Qt : VK} (gg : Go X R E ex) (h : Hd R F H σ Γ)
    (eq : ∀ p F' H' Γ' ds fr vals, Hd R F' H' σ Γ' → Nx σ F H Γ F' H' Γ' → F' p = none → R.H0 p = none → ¬ Ow σ Γ' p → H' p = some (.dK vals) → RpK (fF R F' fr) vals ds → H p = none → Q (.dk ds) fr Γ' → Qt (.ref p) H') (q : wDc w wg wt wk we vs ex Γ Q) : tDc wi g tt tk te vs σ H Qt := by
  refine ki R F H σ Γ ex _ _ gg h (fun J F1 H1 Γ1 items dp h1 x1 it q => ?_) q
  obtain ⟨hsz, q⟩ := q
  intro D0 hD
  obtain ⟨hn, fn, zn, on⟩ := h1.newO (o := .dK []) hD
  have hH : H D0 = none := by
    cases z : H D0 with
    | none => rfl
    | some o => exact absurd hD (x1.stay D0 (by rw [z]; simp))
  refine ⟨fun i m Hc => m = items.length - i ∧ i ≤ items.length ∧ ∃ Fc Γc acc f vals, Hd R Fc Hc σ Γc ∧ Nx σ F1 H1 Γ1 Fc Hc Γc ∧ Hc D0 = some (.dK vals) ∧ RpK (fF R Fc f) vals acc ∧ vals.length ≤ i ∧ Fc D0 = none ∧ ¬ Ow σ Γc D0 ∧
      dcGo wg wt wk we vs dp (items.drop i) acc f Γc (fun ds f Γ2 => Q (.dk ds) f Γ2), ⟨items.length, rfl, Nat.zero_le _, F1, Γ1, [], true, [], hn, Nx.refl.poke hD, upd_same, .nil, Nat.le_refl _, fn, on, q⟩, ?_⟩
  rintro i m Hc ⟨em, hi, Fc, Γc, acc, f, vals, hc, nc, eD, rc, hlen, fD, oD, q2⟩
  have dpo : depE Γc dp → depOk σ σ Γc dp := fun z y hy => ⟨rfl, z y hy⟩
  by_cases hlt : i < items.length
  · rw [drop_cons hlt] at q2
    obtain ⟨de, q2⟩ := q2
    obtain ⟨it1, _⟩ := it i Fc Hc σ Γc nc.ex hc (dpo de)
    obtain ⟨go, yld⟩ := it1 items[i].1 items[i].2 (List.getElem?_eq_getElem hlt)
    refine .inr ⟨go, fun H' => ∃ Fc Γc acc f vals, Hd R Fc H' σ Γc ∧ Nx σ F1 H1 Γ1 Fc H' Γc ∧ H' D0 = some (.dK vals) ∧ RpK (fF R Fc f) vals acc ∧ vals.length ≤ i + 1 ∧ Fc D0 = none ∧ ¬ Ow σ Γc D0 ∧
      dcGo wg wt wk we vs dp (items.drop (i + 1)) acc f Γc (fun ds f Γ2 => Q (.dk ds) f Γ2), fun H' z => ⟨items.length - (i + 1), by omega, rfl, hlt, z⟩, fun x H2 hy => ?_⟩
    obtain ⟨F2, xF, xH, sub, new, rx⟩ := yld x H2 hy
    have h3 := hc.grow xH xF sub new
    have n3 : Nx σ Fc Hc Γc F2 H2 Γc := .grow xF xH new
    refine kg R F2 H2 _ _ x _ _ _ _ gg.K (h3.wiped vs) rx (fun σ4 Γ4 h4 s4 q4 => ?_) q2
    have out4 : ∀ j, j ∉ vs → σ4[j]? = σ[j]? := fun j hj => (s4.out j fun z => hj (hsl j z)).trans (wipe_out hj)
    have ow4 : ∀ a, Ow σ4 Γ4 a → Ow σ Γc a := fun a z => ow_wiped (s4.ow a z)
    have len4 : σ4.length = σ.length := s4.len.trans (wipe_length _ _)
    refine ⟨wipe_same len4 out4, ?_⟩
    have back : ∀ {F6 H6 Γ6}, Hd R F6 H6 σ4 Γ6 → Nx σ4 F2 H2 Γ4 F6 H6 Γ6 → Hd R F6 H6 σ (rs Γc Γ6 vs) ∧ Nx σ Fc Hc Γc F6 H6 (rs Γc Γ6 vs) ∧ H6 D0 = some (.dK vals) ∧ F6 D0 = none ∧ ¬ Ow σ (rs Γc Γ6 vs) D0 := fun {F6 H6 Γ6} h6 x6 => by
      have o4 : ¬ Ow σ4 Γ4 D0 := fun z => oD (ow4 D0 z)
      have nb := n3.block ow4 x6 out4
      have e2 := xH _ _ eD
      refine ⟨h3.unwiped h6 x6.ex len4 out4, nb, x6.keep D0 _ e2 o4, ?_, fun z => oD (nb.ow D0 z)⟩
      cases z : F6 D0 with
      | none => rfl
      | some u =>
        rcases nb.new D0 u z with y | y | y
        · rw [fD] at y; cases y
        · rw [eD] at y; cases y
        · exact absurd y oD
    refine kt R F2 H2 σ4 Γ4 _ _ _ (go_none gg.K) h4 (fun b F5 H5 Γ5 h5 x5 q5 => ?_) q4
    cases b with
    | true =>
      show (if true = true then _ else _)
      rw [if_pos rfl]
      refine kk R F5 H5 σ4 Γ5 _ _ _ (go_none gg.K) h5 (fun y F6 H6 Γ6 dy fy h6 x6 r6 q6 => ?_) q5
      refine ke R F6 H6 σ4 Γ6 _ _ _ (go_none gg.K) h6 (fun v F7 H7 Γ7 d fr h7 x7 r7 q7 => ?_) q6
      cases qk : keyOf dy with
      | none => simp only [qk] at q7
      | some ky =>
        simp only [qk] at q7
        have ey := keyOf_rp qk r6
        subst ey
        obtain ⟨h8, n8, e8, f8, o8⟩ := back h7 ((x5.trans x6).trans x7)
        refine ⟨vals, ky, rfl, e8, by omega, F7, rs Γc Γ7 vs, putD acc ky d, f && fr, putK vals ky v, h8.poke f8 o8 zn, (nc.trans n8).poke hD, upd_same, ?_, ?_, f8, o8, q7⟩
        · exact rpK_put ((rc.mono (fF_mono n8.ex)).mono ex_and) (rpb r7)
        · have := length_putK vals ky v
          omega
    | false =>
      show (if false = true then _ else _)
      rw [if_neg Bool.false_ne_true]
      obtain ⟨h7, n7, e7, f7, o7⟩ := back h5 x5
      exact ⟨F5, rs Γc Γ5 vs, acc, f, vals, h7, nc.trans n7, e7, rc.mono (fF_mono n7.ex), by omega, f7, o7, q5⟩
  · have e : i = items.length := by omega
    subst e
    rw [List.drop_length] at q2
    obtain ⟨de, q2⟩ := q2
    obtain ⟨_, it2⟩ := it items.length Fc Hc σ Γc nc.ex hc (dpo de)
    exact .inl ⟨it2 (Nat.le_refl _), eq D0 Fc Hc Γc acc f vals hc (x1.trans nc) fD zn oD eD rc hH q2⟩
variable {tg iter kx vx : Expr} {ifs : List Expr} {scope : Scope} {own : List (Str × Nat)} {spos : Pos} {sl : List Nat} {w : WI} {wg : WG} {wt : WT} {wk we : WE}
/-- name = {k: v for ..} on one line, the name a local -/
theorem ps_setDc {i : Nat} {y : Str} {py : Pos} {wi : TI} {g : TG} {tt : TT} {tk tv : TE} (hc : X.calm = true) (hN : X.N.Nodup) (hy : X.N[i]? = some y) (hyl : X.env.scope.names.lookup y = some .local)
    (hsw : swapsWith (.DictComp kx vx [⟨tg, iter, ifs, 0⟩] scope pos) (some (.Name y py)) spos.line X.env = pure true) (hi : PI X tg iter wi) (ok : BlkOk X.N X.env.scope scope own)
    (hg : ∀ (s : Shared) (H : Hp) (C : Addr) (cl : List (Str × Addr)) (fp : List Addr), PG (X.blk s H scope (compEnvC scope cl C X.env) fp) tg g) (ht : ∀ (s : Shared) (H : Hp) (C : Addr) (cl : List (Str × Addr)) (fp : List Addr), PTs (X.blk s H scope (compEnvC scope cl C X.env) fp) ifs tt)
    (hk : ∀ (s : Shared) (H : Hp) (C : Addr) (cl : List (Str × Addr)) (fp : List Addr), PE (X.blk s H scope (compEnvC scope cl C X.env) fp) kx tk)
    (he : ∀ (s : Shared) (H : Hp) (C : Addr) (cl : List (Str × Addr)) (fp : List Addr), PE (X.blk s H scope (compEnvC scope cl C X.env) fp) vx tv) (hs : ∀ x, foldedSetIterable iter X.env x = pure x := by intro _; rfl) :
    PS X (.Assign [.Name y py] (.DictComp kx vx [⟨tg, iter, ifs, 0⟩] scope pos) spos) (tAsg (tDc wi g tt tk tv (own.map (·.2))) (gName i)) := by
  refine ⟨fun pins s σ H D I h => ?_⟩
  rw [exec_Assign_Name_used _ _ _ _ hsw]
  refine wpAny_bind (wpAny_standAt (wpAny_bind ?_))
  show wpAny _ X.A (do let _ ← comprehension (.DictComp kx vx [⟨tg, iter, ifs, 0⟩] scope pos) scope X.env (firstIterPos [⟨tg, iter, ifs, 0⟩] pos) newDict false (eval iter X.env) (some (assign (.Name y py) X.env))) _ _ s
  have h : tDc wi g tt tk tv (own.map (·.2)) σ H (fun x H1 => gName i x σ H1 D.nx) := h
  refine wpAny_bind (thn (dc_core (Qf := fun _ s' => SP X pins D .next s') hc hN I hi ok hg ht hk he hs h fun L C s' m H' I' q hn f => ?_) fun _ s' hq => wpAny_pure (wpAny_pure hq))
  show wpAny _ _ (assign (.Name y py) X.env (.ref L)) _ _ _
  refine wpAny_assign_Name (store_ok2 (v := V.ref L) I' hN hy (.inl hyl) rfl (fun s2 I2 ⟨a, sb, ha⟩ => ?_) (.inr hyl))
  obtain ⟨f0, f1, f2, f3, f4, f5⟩ := f
  have haC : C ≠ a := by
    rcases ha with z | z
    · rw [z]; exact f1
    · exact fun e => f4 y a z e.symm
  refine ⟨m, hn.sameBut sb haC, fun h3 sb3 => ?_⟩
  exact ⟨_, H', I2.turned (t' := s2.toks) (fun b o hb e => (sb3.2 b hb).trans e) f0 f1 f3 f4 f5, q⟩
/-- a thing that is not frozen yet becomes a frozen one: the step -/
theorem Nx.frz {σ : L2.St} {F H F' H' : Hp} {Γ Γ' : En} {p : Addr} {u : HO} (x : Nx σ F H Γ F' H' Γ') (f : F' p = none) (n : H p = none) : Nx σ F H Γ (upd F' p u) H' Γ' :=
  ⟨x.ex.trans (Ex.new f), x.keep, x.ow, fun a w e => by
    by_cases ha : a = p
    · rw [ha]; exact .inr (.inl n)
    · rw [upd_ne ha] at e
      exact x.new a w e, x.stay⟩
theorem pw_dc (hc : X.calm = true) (hN : X.N.Nodup) (ok : BlkOk X.N X.env.scope scope own) (hi : PWI X E tg iter w) (hg : Blk X scope fun Y => PWG Y sl tg wg) (ht : Blk X scope fun Y => PWTs Y E0 ifs wt) (hk : Blk X scope fun Y => PWE Y E0 kx wk) (he : Blk X scope fun Y => PWE Y E0 vx we) (hsl : ∀ j ∈ sl, j ∈ own.map (·.2))
    (hs : ∀ x, foldedSetIterable iter X.env x = pure x := by intro _; rfl) : PWE X E (.DictComp kx vx [⟨tg, iter, ifs, 0⟩] scope pos) (wDc w wg wt wk we (own.map (·.2))) := by
  obtain ⟨wi, pi, ki⟩ := hi
  obtain ⟨g, pg, kg⟩ := blk_g hg
  obtain ⟨tt, ptt, kt⟩ := blk_t ht
  obtain ⟨tk, ptk, kk⟩ := blk_e hk
  obtain ⟨te, pte, ke⟩ := blk_e he
  refine ⟨_, pe_dc hc hN pi ok pg ptt ptk pte hs, fun R F H σ Γ ex Q Qt gg h eq q => ?_⟩
  refine dc_run ki kg kt kk ke hsl gg h (fun p F' H' Γ' ds fr vals h' x' f' z' o' e' r' n' q' => ?_) q
  obtain ⟨h2, at_⟩ := h'.frz f' o' z' e'
  exact eq _ _ H' Γ' (.dk ds) fr h2 (x'.frz f' n') (.dk (at_ fr) (r'.mono (fF_mono (Ex.new f')))) q'
theorem pws_setDc {py : Pos} (i : Nat) (hc : X.calm = true) (hN : X.N.Nodup) (ok : BlkOk X.N X.env.scope scope own) (hi : PWI X E tg iter w) (hg : Blk X scope fun Y => PWG Y sl tg wg) (ht : Blk X scope fun Y => PWTs Y E0 ifs wt) (hk : Blk X scope fun Y => PWE Y E0 kx wk) (he : Blk X scope fun Y => PWE Y E0 vx we) (hsl : ∀ j ∈ sl, j ∈ own.map (·.2))
    (hsw : swapsWith (.DictComp kx vx [⟨tg, iter, ifs, 0⟩] scope pos) (some (.Name x py)) spos.line X.env = pure true) (hxi : X.N[i]? = some x := by rfl) (hxl : X.env.scope.names.lookup x = some .local := by rfl)
    (hs : ∀ x, foldedSetIterable iter X.env x = pure x := by intro _; rfl) : PWS X E (.Assign [.Name x py] (.DictComp kx vx [⟨tg, iter, ifs, 0⟩] scope pos) spos) (wSet i (wDc w wg wt wk we (own.map (·.2)))) := by
  obtain ⟨wi, pi, ki⟩ := hi
  obtain ⟨g, pg, kg⟩ := blk_g hg
  obtain ⟨tt, ptt, kt⟩ := blk_t ht
  obtain ⟨tk, ptk, kk⟩ := blk_e hk
  obtain ⟨te, pte, ke⟩ := blk_e he
  refine ⟨_, ps_setDc hc hN hxi hxl hsw pi ok pg ptt ptk pte hs, fun R F H σ Γ P T gg h s q => ?_⟩
  refine dc_run ki kg kt kk ke hsl gg h (fun p F' H' Γ' ds fr vals h' x' f' z' o' e' r' n' q' => ?_) q
  obtain ⟨h2, at_⟩ := h'.frz f' o' z' e'
  have xF : Ex F' (upd F' p (.dK vals)) := Ex.new f'
  exact s.nx _ H' _ _ (h2.put (i := i) (s := .dat (.dk ds) fr) (show Rpf R _ fr _ _ from .dk (at_ fr) (r'.mono (fF_mono xF))) rfl) (x'.ex.trans xF) q'
theorem pws_setDcO {py : Pos} (i : Nat) (hc : X.calm = true) (hN : X.N.Nodup) (ok : BlkOk X.N X.env.scope scope own) (hi : PWI X E tg iter w) (hg : Blk X scope fun Y => PWG Y sl tg wg) (ht : Blk X scope fun Y => PWTs Y E0 ifs wt) (hk : Blk X scope fun Y => PWE Y E0 kx wk) (he : Blk X scope fun Y => PWE Y E0 vx we) (hsl : ∀ j ∈ sl, j ∈ own.map (·.2))
    (hsw : swapsWith (.DictComp kx vx [⟨tg, iter, ifs, 0⟩] scope pos) (some (.Name x py)) spos.line X.env = pure true) (hxi : X.N[i]? = some x := by rfl) (hxl : X.env.scope.names.lookup x = some .local := by rfl)
    (hs : ∀ x, foldedSetIterable iter X.env x = pure x := by intro _; rfl) : PWS X E (.Assign [.Name x py] (.DictComp kx vx [⟨tg, iter, ifs, 0⟩] scope pos) spos) (wSetO i (wDc w wg wt wk we (own.map (·.2)))) := by
  obtain ⟨wi, pi, ki⟩ := hi
  obtain ⟨g, pg, kg⟩ := blk_g hg
  obtain ⟨tt, ptt, kt⟩ := blk_t ht
  obtain ⟨tk, ptk, kk⟩ := blk_e hk
  obtain ⟨te, pte, ke⟩ := blk_e he
  refine ⟨_, ps_setDc hc hN hxi hxl hsw pi ok pg ptt ptk pte hs, fun R F H σ Γ P T gg h s q => ?_⟩
  refine dc_run ki kg kt kk ke hsl gg h (fun p F' H' Γ' ds fr vals h' x' f' z' o' e' r' n' q' => ?_) q
  exact s.nx _ H' _ _ (h'.putOwn (i := i) (o := .dk ds) (fr := fr) ⟨p, rfl, f', z', vals, e', r'⟩ o') x'.ex q'
end
end Y

/-! Y: set(xs) of a list of whole numbers, with its table told (turned from HandS.SetFor's rule for tuples). -/
namespace L2
open PySem PySem.Spec PyProof.Rows
section
variable {P : Program} {w : World} {A : Around} {E : Value → Shared → Prop} {s : Shared}
/-- the empty set as it is laid -/
abbrev set00 (w : World) : Obj := { cls := .type "set", dict := none, data := .set #[] 0 (.fresh 0 0 (!w.params.followText "set-order")) }
theorem y_set_list {l : Addr} {items : Array Value} (ns : List Int) {Q : Value → Shared → Prop} (hh : A.handled = none) (hl : s.heap.IsList l items) (hit : IntsAre items.toList ns) (hb : ns.length + 1 < scanBound)
    (h : ∀ (h' : Heap) (tk c : Nat), SetR w h' s.heap.objs.size (fun j => decide (j ∈ ns)) c → c ≤ ns.length → (∀ b o, s.heap.get? b = some o → h'.get? b = some o) → Q (.ref s.heap.objs.size) { s with heap := h', toks := tk }) :
    wpAny (model P w) A (call (.type "set") [.ref l]) Q E s := by
  have sz : items.size = ns.length := by
    have q := IntsAre.length hit
    rw [Array.length_toList] at q
    exact q
  obtain ⟨c, tl, hmro⟩ := F.called_set.mro
  have hmade := F.called_set.made
  have hsub := F.called_set.sub
  refine wpAny_call (codeAny_of_tree ?_)
  show wpAny _ _ (callAny (.type "set") _) _ _ _
  refine wpAny_pure ⟨Code.quiet_builtin _ (by decide +kernel), codeAny_builtin F.entry_type_call ?_⟩
  rw [Around.under_plain (weight_type_call_type "set" [.ref l] []) rfl]
  have h1 := F.called_set.notType
  have h2 := F.called_set.canCreate
  have hct := F.typeCall_set_1 (.ref l)
  repeat (any_goals (first | assumption | wp_step))
  refine codeAny_mono (code_set_led1 (.ref l) (E := E) (Q₁ := fun obj s₁ => obj = .ref s.heap.objs.size ∧ s₁ = { s with heap := s.heap.push (set00 w) }) ⟨rfl, rfl⟩) fun r s₁ hr => ?_
  match r, hr with
  | .error e, hr => exact hr
  | .ok .next, hr => exact hr.elim
  | .ok .brk, hr => exact hr.elim
  | .ok .cont, hr => exact hr.elim
  | .ok (.ret obj), ⟨e1, e2⟩ =>
    subst e1
    subst e2
    have hS : (s.heap.push (set00 w)).get? s.heap.objs.size = some (set00 w) := Heap.get?_push_size _ rfl
    have hT : Shared.TypeIs { s with heap := s.heap.push (set00 w) } (.ref s.heap.objs.size) "set" := ⟨_, hS, rfl⟩
    have hli := F.called_set.init.lookup
    have hbi := F.called_set.init.bind (.ref s.heap.objs.size)
    repeat (any_goals (first | assumption | wp_step))
    refine codeAny_mono (codeAny_call_builtin (R := wants (fun r s₂ => r = .none ∧ ∃ h' tk c, s₂ = { s with heap := h', toks := tk } ∧ SetR w h' s.heap.objs.size (fun j => decide (j ∈ ns)) c ∧ c ≤ ns.length ∧
        (∀ b o, s.heap.get? b = some o → h'.get? b = some o)) E) F.called_set.init.plain F.entry_set_init (check_set_init_1 hT ?_)) fun r₂ s₂ hr₂ => ?_
    · obtain ⟨ol, hol, hcl, nl, hdl⟩ := hl
      obtain ⟨ocls, odict, odata, oslots⟩ := ol
      simp only at hcl hdl
      subst hcl
      subst hdl
      have hol' : (s.heap.push (set00 w)).get? l = some { cls := .type "list", dict := odict, data := .seq items nl, slots := oslots } := Heap.get?_push_of_some _ hol
      have hsls := F.sub_list_set
      have hslf := F.sub_list_frozenset
      have hne : (Value.type "list" == Value.type "dict") = false := by decide
      have hl1 : (s.heap.push (set00 w)).IsList l items := ⟨_, hol', rfl, nl, rfl⟩
      unfold Builtin.«set.__init__» noKeywords Builtin.Frozenset.updateFrom
      generalize hPI : pyIter = PI
      wp_walk
      subst hPI
      refine wpAny_pyIter_list hl1 ?_
      refine wpAny_bind (wpAny_runValue ?_)
      have hlS : l < s.heap.objs.size := Heap.lt_size hol
      have hh3 : A.in1.in1.in1.handled = none := by simp [hh]
      have hneI : l ≠ (s.heap.push (set00 w)).objs.size := by
        rw [Heap.size_push]; exact Nat.ne_of_lt (Nat.lt_succ_of_lt hlS)
      have hSf : s.heap.objs.size ∉ [(s.heap.push (set00 w)).objs.size, l] := by
        rw [Heap.size_push]; simp only [List.mem_cons, List.mem_singleton, List.not_mem_nil, or_false, not_or]
        exact ⟨Nat.ne_of_lt (Nat.lt_succ_self _), Nat.ne_of_gt hlS⟩
      have hval : ∀ (i : Nat) (v : Value), items[i]? = some v → ∃ k t, ns[i]? = some k ∧ v = .int k t := fun i v hv => by
        have hi : i < ns.length := by rw [← sz]; exact (Array.getElem?_eq_some_iff.mp hv).1
        obtain ⟨t, e⟩ := PyProof.Rows.IntsAre.int_at hit i v (by rw [Array.getElem?_toList]; exact hv)
        refine ⟨ns[i], t, List.getElem?_eq_getElem hi, ?_⟩
        rw [e, List.getD_eq_getElem?_getD, List.getElem?_eq_getElem hi] <;> rfl
      refine set_update_ints ((Walks.list hh3 _ l hneI items).toS) s.heap.objs.size
        hSf ns sz hb hval (items.size - 0) 0 _ (by omega) (Nat.zero_le _)
        ⟨⟨_, Heap.get?_push_size _ rfl, rfl, rfl⟩, (hl1.push _)⟩ ⟨0, Nat.le_refl 0, setR_new_at (Heap.get?_push_of_some _ hS)⟩ fun s' c' hm hc' hS' => ?_
      obtain ⟨h', g2, d', tk', os'⟩ := s'
      have eg : g2 = s.gens := hm.gens
      have ed : d' = s.drawn := hm.drawn
      have eo : os' = s.os := hm.os
      subst eg
      subst ed
      subst eo
      show wpAny _ _ _ _ _ _
      refine wpAny_pure ?_
      show wpAny _ _ (ret Value.none) _ _ _
      rw [sz] at hc'
      refine wpAny_pure ⟨rfl, h', tk', c', rfl, hS', hc', fun b o e => ?_⟩
      have hb0 : b < s.heap.objs.size := Heap.lt_size e
      have hb1 : b ≠ s.heap.objs.size := Nat.ne_of_lt hb0
      have hb2 : b ≠ (s.heap.push (set00 w)).objs.size := by
        rw [Heap.size_push]; exact Nat.ne_of_lt (Nat.lt_succ_of_lt hb0)
      exact hm.heap b o (by simp only [List.mem_cons, List.mem_singleton, List.not_mem_nil, or_false, not_or]; exact ⟨hb1, hb2⟩) (Heap.get?_push_of_some _ (Heap.get?_push_of_some _ e))
    · match r₂, hr₂ with
      | .error e, hr₂ => exact hr₂
      | .ok .next, hr₂ => exact hr₂.elim
      | .ok .brk, hr₂ => exact hr₂.elim
      | .ok .cont, hr₂ => exact hr₂.elim
      | .ok (.ret r), ⟨e1, h', tk, c', e2, hS', hc', hk'⟩ =>
        subst e1
        subst e2
        repeat (any_goals (first | assumption | wp_step))
        exact h _ _ _ hS' hc' hk'
end
section
variable {X : Cx}
/-- set(xs), xs a list of whole numbers -/
def rSetLI (K : PySem.W.Frag) (w : World) : List V → Hp → VK → Prop := fun vs H Q => ∃ (a : Addr) (ns : List Int), vs = [V.ref a] ∧ SqL K H a (ns.map V.int) ∧ ns.length < 1000 ∧
  ∀ (c : Nat) (p : Addr), c ≤ ns.length → H p = none → Q (.ref p) (upd H p (SetO w p (fun j => decide (j ∈ ns)) c))
theorem cr_setLI (hc : X.calm = true) : CallR X (.type "set") (rSetLI X.K X.w) := by
  intro pins s σ H vs us Q I r h
  obtain ⟨a, ns, rfl, hs, hz, q⟩ := h
  obtain ⟨its, rv, hl, _⟩ := I.list hs
  rw [Vals.ref1 r]
  refine y_set_list ns (I.ok.hd hc) hl.isList rv.ints (by unfold scanBound; omega) fun h' tk c R cn k => ?_
  exact ⟨.ref _, upd H s.heap.objs.size (SetO X.w s.heap.objs.size (fun j => decide (j ∈ ns)) c), I.laid (t' := tk) k (Nat.le_refl _) (setO_new R), rfl, q c _ cn (I.hok.fresh (Nat.le_refl _))⟩
end
end L2

/-! Y: part 13: powers, calls of two things, ranges as lists, sorted, set, zip, slices. -/
namespace Y
open PySem PySem.Spec PyProof.Rows L2

section
variable {X : Cx} {E : XK} {e a b c tg : Expr} {es : List Expr} {pos p p1 p2 pos1 : Pos} {x : Str} {wa wb wc : WE} {va vb : WV}
/-! ### powers -/
def CPowW (i j : Int) : Prop := 0 ≤ j ∧ (Builtin.Int.intBits i : Int) * j ≤ 2 ^ 27
theorem op_powW : OpR X (binaryOp .Pow) (rI CPowW fun i j => .int (i ^ j.toNat)) := opI fun _ _ _ _ _ _ _ hc q => pow_int hc.1 hc.2 q
theorem o_pow : OpR X (binaryOp .Pow) (rI CPowW fun i j => .int (i ^ j.toNat)) ∧ OK2 X (rI CPowW fun i j => .int (i ^ j.toNat)) (kI CPowW fun i j => .int (i ^ j.toNat)) := ⟨op_powW, ok_kI fun _ _ => rfl⟩

/-! ### calls of two things -/
abbrev KC2 := D → Bool → D → Bool → (D → Bool → Prop) → Prop
def OC2 (X : Cx) (r : List V → Hp → VK → Prop) (k : KC2) : Prop := ∀ (R : Rl) (F H : Hp) (σ : L2.St) (Γ : En) v d fr u g fu Q Qt, R.K = X.K → Hd R F H σ Γ → Rpf R F fr v d → Rpf R F fu u g → KQ R F H σ Γ Q Qt → k d fr g fu Q → r [v, u] H Qt
@[reducible] def wC2 (k : KC2) (wa wb : WE) : WE := fun ex Γ Q => wa ex Γ fun x fx Γ1 => wb ex Γ1 fun y fy Γ2 => k x fx y fy fun z fz => Q z fz Γ2
theorem pw_b2 {id : String} {r : List V → Hp → VK → Prop} {k : KC2} (o : CallR X (.builtin id) r ∧ OC2 X r k) (hm : X.mg x = none) (hv : bootBuiltins x = some (.builtin id)) (ha : PWE X E a wa) (hb : PWE X E b wb) (hg : Gl X x := by rfl) (hn : x ≠ "__name__" := by decide) (hdb : (x == ("__debug__" : Str)) = false := by decide)
    (he : starEach (a :: [b]) X.env = (false, eval a X.env) :: starEach [b] X.env := by rfl) (he2 : starEach (b :: []) X.env = (false, eval b X.env) :: starEach [] X.env := by rfl) (hpl : (backTo pos (starEach [b] X.env)).any (·.1) = false := by rfl) :
    PWE X E (.Call (.Name x p) [a, b] [] pos) (wC2 k wa wb) := by
  obtain ⟨ta, pa, ka⟩ := ha
  obtain ⟨tb, pb, kb⟩ := hb
  refine ⟨_, pe_callB o.1 hg hm hv (pa_cons pa (pa_cons pb pa_nil he2) he) hn hdb he hpl, fun R F H σ Γ ex Q Qt g h eq w => ?_⟩
  exact ka R F H σ Γ ex _ _ g h (fun v F1 H1 Γ1 d fr h1 x1 r1 w1 => kb R F1 H1 σ Γ1 ex _ _ g h1 (fun u F2 H2 Γ2 d2 fr2 h2 x2 r2 w2 =>
    o.2 R F2 H2 σ Γ2 v d fr u d2 fr2 _ Qt g.K h2 (r1.mono (fF_mono x2.ex)) r2 (fun v F3 H3 d fr h3 x3 r3 q => eq v F3 H3 Γ2 d fr h3 ((x1.trans x2).trans x3) r3 q) w2) w1) w
@[reducible] def kMin2 : KC2 := fun d _ g _ Q => match d, g with
  | .int i, .int j => Q (.int (if j < i then j else i)) true
  | _, _ => False
@[reducible] def kMax2 : KC2 := fun d _ g _ Q => match d, g with
  | .int i, .int j => Q (.int (if j > i then j else i)) true
  | _, _ => False
theorem o_min2 (hc : X.calm = true) : CallR X (.builtin "min") (fun xs H Q => ∃ i j, xs = [.int i, .int j] ∧ Q (.int (if j < i then j else i)) H) ∧ OC2 X (fun xs H Q => ∃ i j, xs = [.int i, .int j] ∧ Q (.int (if j < i then j else i)) H) kMin2 := by
  refine ⟨call_min2 hc, fun R F H σ Γ v d fr u g fu Q Qt hK h r1 r2 eq k => ?_⟩
  cases d with
  | int i => cases g with
    | int j =>
      have e := rp_int r1
      subst e
      have e := rp_int r2
      subst e
      exact ⟨i, j, rfl, eq _ F H _ true h Nx.refl (.int _) k⟩
    | _ => exact k.elim
  | _ => exact k.elim
theorem o_max2 (hc : X.calm = true) : CallR X (.builtin "max") (fun xs H Q => ∃ i j, xs = [.int i, .int j] ∧ Q (.int (if j > i then j else i)) H) ∧ OC2 X (fun xs H Q => ∃ i j, xs = [.int i, .int j] ∧ Q (.int (if j > i then j else i)) H) kMax2 := by
  refine ⟨call_max2 hc, fun R F H σ Γ v d fr u g fu Q Qt hK h r1 r2 eq k => ?_⟩
  cases d with
  | int i => cases g with
    | int j =>
      have e := rp_int r1
      subst e
      have e := rp_int r2
      subst e
      exact ⟨i, j, rfl, eq _ F H _ true h Nx.refl (.int _) k⟩
    | _ => exact k.elim
  | _ => exact k.elim
@[reducible] def kDivmod : KC2 := fun d _ g _ Q => match d, g with
  | .int i, .int j => CDiv i j ∧ Q (.tup [.int (i / j), .int (i % j)]) true
  | _, _ => False
theorem o_divmod : CallR X (.builtin "divmod") (fun xs H Q => ∃ i j, xs = [.int i, .int j] ∧ CDiv i j ∧ ∀ p, H p = none → Q (.ref p) (upd H p (.tup [.int (i / j), .int (i % j)]))) ∧ OC2 X (fun xs H Q => ∃ i j, xs = [.int i, .int j] ∧ CDiv i j ∧ ∀ p, H p = none → Q (.ref p) (upd H p (.tup [.int (i / j), .int (i % j)]))) kDivmod := by
  refine ⟨call_divmod, fun R F H σ Γ v d fr u g fu Q Qt hK h r1 r2 eq k => ?_⟩
  cases d with
  | int i => cases g with
    | int j =>
      have e := rp_int r1
      subst e
      have e := rp_int r2
      subst e
      refine ⟨i, j, rfl, k.1, fun p hp => ?_⟩
      obtain ⟨h2, x2, at_⟩ := h.newF (o := .tup [.int (i / j), .int (i % j)]) hp
      exact eq _ _ _ _ true h2 x2 (.tup (at_ _) (.cons (.int _) (.cons (.int _) .nil))) k.2
    | _ => exact k.elim
  | _ => exact k.elim

/-! ### list(range(..)) -/
def rgD (lo : Int) (n : Nat) : List D := (List.range n).map fun (i : Nat) => D.int (lo + i)
theorem rg_rp {F : Hp} (a b : Int) : RpAll F (rgV a b) (rgD a (b - a).toNat) := by
  unfold rgV rgD
  generalize List.range (b - a).toNat = l
  induction l with
  | nil => exact .nil
  | cons i l ih => exact .cons (.int _) ih
@[reducible] def wLR1 (wa : WE) : WE := fun ex Γ Q => wa ex Γ fun d _ Γ1 => match d with
  | .int n => RgOk 0 n ∧ Q (.lst (rgD 0 (n - 0).toNat)) true Γ1
  | _ => False
@[reducible] def wLR2 (wa wb : WE) : WE := fun ex Γ Q => wa ex Γ fun d _ Γ1 => wb ex Γ1 fun d2 _ Γ2 => match d, d2 with
  | .int i, .int j => RgOk i j ∧ Q (.lst (rgD i (j - i).toNat)) true Γ2
  | _, _ => False
theorem pw_listRg1 (hc : X.calm = true) (hm : X.mg "list" = none) (hm2 : X.mg "range" = none) (ha : PWE X E a wa) (hg : Gl X "list" := by rfl) (hg2 : Gl X "range" := by rfl) (na : starEach [a] X.env = (false, eval a X.env) :: starEach [] X.env := by rfl)
    (nb : starEach [.Call (.Name "range" p1) [a] [] pos1] X.env = (false, eval (.Call (.Name "range" p1) [a] [] pos1) X.env) :: starEach [] X.env := by rfl) : PWE X E (.Call (.Name "list" p) [.Call (.Name "range" p1) [a] [] pos1] [] pos) (wLR1 wa) := by
  obtain ⟨ta, pa, ka⟩ := ha
  refine ⟨_, pe_listRg hc hg hm (prg_1 hg2 hm2 pa na) nb, fun R F H σ Γ ex Q Qt g h eq w => ?_⟩
  refine ka R F H σ Γ ex _ _ g h (fun v F1 H1 Γ1 d fr h1 x1 r1 w1 => ?_) w
  cases d with
  | int n =>
    refine ⟨n, rp_int r1, w1.1, fun q hq => ?_⟩
    obtain ⟨h2, x2, at_⟩ := h1.newF (o := .lst (rgV 0 n)) hq
    exact eq _ _ _ Γ1 _ true h2 (x1.trans x2) (.lst (at_ _) (rg_rp 0 n)) w1.2
  | _ => exact w1.elim
theorem pn_listRg1 (hc : X.calm = true) (hm : X.mg "list" = none) (hm2 : X.mg "range" = none) (ha : PWE X E a wa) (hg : Gl X "list" := by rfl) (hg2 : Gl X "range" := by rfl) (na : starEach [a] X.env = (false, eval a X.env) :: starEach [] X.env := by rfl)
    (nb : starEach [.Call (.Name "range" p1) [a] [] pos1] X.env = (false, eval (.Call (.Name "range" p1) [a] [] pos1) X.env) :: starEach [] X.env := by rfl) : PWN X E (.Call (.Name "list" p) [.Call (.Name "range" p1) [a] [] pos1] [] pos) (wLR1 wa) := by
  obtain ⟨ta, pa, ka⟩ := ha
  refine ⟨_, pe_listRg hc hg hm (prg_1 hg2 hm2 pa na) nb, fun R F H σ Γ ex Q Qt g h eq w => ?_⟩
  refine ka R F H σ Γ ex _ _ g h (fun v F1 H1 Γ1 d fr h1 x1 r1 w1 => ?_) w
  cases d with
  | int n =>
    refine ⟨n, rp_int r1, w1.1, fun q hq => ?_⟩
    obtain ⟨h2, f2, z2, n2⟩ := h1.newO (o := .lst (rgV 0 n)) hq
    exact eq q F1 _ Γ1 (.lst _) _ h2 (x1.newO hq) (x1.was hq) ⟨q, rfl, f2, z2, _, upd_same, rg_rp 0 n⟩ n2 w1.2
  | _ => exact w1.elim
theorem pw_listRg2 (hc : X.calm = true) (hm : X.mg "list" = none) (hm2 : X.mg "range" = none) (ha : PWE X E a wa) (hb : PWE X E b wb) (hg : Gl X "list" := by rfl) (hg2 : Gl X "range" := by rfl) (na : starEach [a, b] X.env = (false, eval a X.env) :: starEach [b] X.env := by rfl)
    (nb : starEach [b] X.env = (false, eval b X.env) :: starEach [] X.env := by rfl) (hpl : (backTo pos1 (starEach [b] X.env)).any (·.1) = false := by rfl)
    (nc : starEach [.Call (.Name "range" p1) [a, b] [] pos1] X.env = (false, eval (.Call (.Name "range" p1) [a, b] [] pos1) X.env) :: starEach [] X.env := by rfl) : PWE X E (.Call (.Name "list" p) [.Call (.Name "range" p1) [a, b] [] pos1] [] pos) (wLR2 wa wb) := by
  obtain ⟨ta, pa, ka⟩ := ha
  obtain ⟨tb, pb, kb⟩ := hb
  refine ⟨_, pe_listRg hc hg hm (prg_2 hg2 hm2 pa pb na nb hpl) nc, fun R F H σ Γ ex Q Qt g h eq w => ?_⟩
  refine ka R F H σ Γ ex _ _ g h (fun v F1 H1 Γ1 d fr h1 x1 r1 w1 => kb R F1 H1 σ Γ1 ex _ _ g h1 (fun u F2 H2 Γ2 d2 fr2 h2 x2 r2 w2 => ?_) w1) w
  cases d with
  | int n => cases d2 with
    | int m =>
      refine ⟨n, m, rp_int r1, rp_int r2, w2.1, fun q hq => ?_⟩
      obtain ⟨h3, x3, at_⟩ := h2.newF (o := .lst (rgV n m)) hq
      exact eq _ _ _ Γ2 _ true h3 ((x1.trans x2).trans x3) (.lst (at_ _) (rg_rp n m)) w2.2
    | _ => exact w2.elim
  | _ => exact w2.elim
theorem pn_listRg2 (hc : X.calm = true) (hm : X.mg "list" = none) (hm2 : X.mg "range" = none) (ha : PWE X E a wa) (hb : PWE X E b wb) (hg : Gl X "list" := by rfl) (hg2 : Gl X "range" := by rfl) (na : starEach [a, b] X.env = (false, eval a X.env) :: starEach [b] X.env := by rfl)
    (nb : starEach [b] X.env = (false, eval b X.env) :: starEach [] X.env := by rfl) (hpl : (backTo pos1 (starEach [b] X.env)).any (·.1) = false := by rfl)
    (nc : starEach [.Call (.Name "range" p1) [a, b] [] pos1] X.env = (false, eval (.Call (.Name "range" p1) [a, b] [] pos1) X.env) :: starEach [] X.env := by rfl) : PWN X E (.Call (.Name "list" p) [.Call (.Name "range" p1) [a, b] [] pos1] [] pos) (wLR2 wa wb) := by
  obtain ⟨ta, pa, ka⟩ := ha
  obtain ⟨tb, pb, kb⟩ := hb
  refine ⟨_, pe_listRg hc hg hm (prg_2 hg2 hm2 pa pb na nb hpl) nc, fun R F H σ Γ ex Q Qt g h eq w => ?_⟩
  refine ka R F H σ Γ ex _ _ g h (fun v F1 H1 Γ1 d fr h1 x1 r1 w1 => kb R F1 H1 σ Γ1 ex _ _ g h1 (fun u F2 H2 Γ2 d2 fr2 h2 x2 r2 w2 => ?_) w1) w
  cases d with
  | int n => cases d2 with
    | int m =>
      refine ⟨n, m, rp_int r1, rp_int r2, w2.1, fun q hq => ?_⟩
      obtain ⟨h3, f3, z3, n3⟩ := h2.newO (o := .lst (rgV n m)) hq
      exact eq q F2 _ Γ2 (.lst _) _ h3 ((x1.trans x2).newO hq) ((x1.trans x2).was hq) ⟨q, rfl, f3, z3, _, upd_same, rg_rp n m⟩ n3 w2.2
    | _ => exact w2.elim
  | _ => exact w2.elim

/-! ### sorted -/
/-- the order of sorted, by data -/
def leD (x y : D) : Bool := PySem.W.dataLe false pd x y
structure SortOk (ds : List D) : Prop where
  plain : plainAll ds = true
  alike : PySem.W.AllAlike (ds.map pd)
  kind : PySem.W.Sortable (ds.map pd)
  len : ds.length ≤ sizeLine
  dep : ∀ d ∈ ds, (pd d).depth ≤ 60
@[reducible] def kSorted : K1 := fun d fr Q => match d with
  | .lst ds => SortOk ds ∧ Q (.lst (ds.mergeSort leD)) fr
  | _ => False
def rSortD (A : Around) (K : PySem.W.Frag) : List V → Hp → VK → Prop := fun vs H Q => ∃ (a : Addr) (xs : List (V × D)), vs = [V.ref a] ∧ SqL K H a (xs.map (·.1)) ∧ (∀ x ∈ xs, Dp K H x.1 (pd x.2)) ∧
  PySem.W.AllAlike (xs.map fun x => pd x.2) ∧ PySem.W.Sortable (xs.map fun x => pd x.2) ∧ xs.length ≤ sizeLine ∧ (∀ x ∈ xs, A.units + 2 + (pd x.2).depth < cLine) ∧
  ∀ p, H p = none → Q (.ref p) (upd H p (.lst ((xs.mergeSort (PySem.W.dataLe false fun x => pd x.2)).map (·.1))))
theorem each_vals {pins : List (Addr × Obj)} {σ : L2.St} {H : Hp} {s : Shared} (I : Inv X pins σ H s) : ∀ {xs : List (V × D)} {us : List Value}, Vals (xs.map (·.1)) us → (∀ x ∈ xs, Dp X.K H x.1 (pd x.2)) → PySem.W.EachIs (fun (v : Value) (x : V × D) => ∃ as, Reads s.heap v (pd x.2) as) us xs
  | [], _, r, _ => by
    rw [List.map_nil] at r
    cases r
    exact .nil
  | x :: xs, _, r, h => by
    rw [List.map_cons] at r
    cases r with
    | cons a r => exact .cons (Dp.reads I _ _ _ (h x List.mem_cons_self) a) (each_vals I r fun y hy => h y (List.mem_cons_of_mem _ hy))
theorem each_rel : ∀ {xs : List (V × D)} {us : List Value}, Vals (xs.map (·.1)) us → PySem.W.EachIs (fun (v : Value) (x : V × D) => RelV x.1 v) us xs
  | [], _, r => by
    rw [List.map_nil] at r
    cases r
    exact .nil
  | x :: xs, _, r => by
    rw [List.map_cons] at r
    cases r with
    | cons a r => exact .cons a (each_rel r)
theorem vals_each : ∀ {us : List Value} {xs : List (V × D)}, PySem.W.EachIs (fun (v : Value) (x : V × D) => RelV x.1 v) us xs → Vals (xs.map (·.1)) us
  | _, _, .nil => .nil
  | _, _, .cons a r => .cons a (vals_each r)
theorem cr_sortD : CallR X (.builtin "sorted") (rSortD X.A X.K) := by
  intro pins s σ H vs us Q I r h
  obtain ⟨a, xs, rfl, hs, hd, hal, hk, hl, hu, q⟩ := h
  obtain ⟨its, rv, ht, _⟩ := I.list hs
  rw [Vals.ref1 r]
  refine PySem.W.sorted_data (enc := fun x : V × D => pd x.2) (bs := xs) ht.isList (each_rel rv) (each_vals I rv hd) hal hk hl hu fun out ho he => ?_
  obtain ⟨ep, he'⟩ := PyProof.Rows.sortedAll_at s.heap its out.toArray
  refine ⟨.ref _, upd H (s.heap.objs.size + 1) (.lst ((xs.mergeSort (PySem.W.dataLe false fun x => pd x.2)).map (·.1))), I.laid (t' := s.toks) (fun _ _ => PyProof.Rows.sortedAll_old) (Nat.le_succ _) ⟨?_, out, ep, vals_each he, he'⟩, rfl, q _ (I.hok.fresh (Nat.le_succ _))⟩
  rw [List.length_map, List.length_mergeSort]
  exact hl
/-- the pairs of what stands and what it stands for -/
theorem pairs_of {F : Hp} : ∀ {vs : List V} {ds : List D}, RpAll F vs ds → ∃ xs : List (V × D), xs.map (·.1) = vs ∧ xs.map (·.2) = ds ∧ ∀ x ∈ xs, Rp F x.1 x.2
  | _, _, .nil => ⟨[], rfl, rfl, fun _ h => by cases h⟩
  | _, _, .cons (v := v) (d := d) a r => by
    obtain ⟨xs, e1, e2, h⟩ := pairs_of r
    exact ⟨(v, d) :: xs, by rw [List.map_cons, e1], by rw [List.map_cons, e2], fun x hx => by
      rcases List.mem_cons.mp hx with q | q
      · rw [q]; exact a
      · exact h x q⟩
theorem rpAll_pairs {F : Hp} : ∀ {xs : List (V × D)}, (∀ x ∈ xs, Rp F x.1 x.2) → RpAll F (xs.map (·.1)) (xs.map (·.2))
  | [], _ => .nil
  | x :: xs, h => .cons (h x List.mem_cons_self) (rpAll_pairs fun y hy => h y (List.mem_cons_of_mem _ hy))
theorem plainAll_mem : ∀ {ds : List D}, plainAll ds = true → ∀ d ∈ ds, plain d = true
  | [], _, _, h => by cases h
  | x :: xs, h, d, hd => by
    unfold plainAll at h
    obtain ⟨h1, h2⟩ := Bool.and_eq_true_iff.mp h
    rcases List.mem_cons.mp hd with q | q
    · rw [q]; exact h1
    · exact plainAll_mem h2 d q
theorem o_sorted (hu : X.A.units + 64 < cLine) : CallR X (.builtin "sorted") (rSortD X.A X.K) ∧ OC1 X (rSortD X.A X.K) kSorted := by
  refine ⟨cr_sortD, fun R F H σ Γ v d fr Q Qt hK h s eq k => ?_⟩
  cases d with
  | lst ds =>
    obtain ⟨ok, k⟩ := k
    obtain ⟨p, vs, e1, e2, r⟩ := s
    subst e1
    obtain ⟨xs, ev, ed, hx⟩ := pairs_of r
    subst ev
    subst ed
    have em : ∀ (l : List (V × D)), (l.mergeSort (PySem.W.dataLe false fun x => pd x.2)).map (·.2) = (l.map (·.2)).mergeSort leD := fun l => List.map_mergeSort fun a _ b _ => rfl
    have pl : ∀ x ∈ xs, plain x.2 = true := fun x hm => plainAll_mem ok.plain _ (List.mem_map_of_mem hm)
    refine ⟨p, xs, rfl, .inl (.inl e2), fun x hm => Rp.dp h.sub (Rp.mono fF_ex (hx x hm)) (pl x hm), ?_, ?_, ?_, fun x hm => ?_, fun q hq => ?_⟩
    · have z := ok.alike
      rw [List.map_map] at z
      exact z
    · have z := ok.kind
      rw [List.map_map] at z
      exact z
    · have z := ok.len
      rw [List.length_map] at z
      exact z
    · have z := ok.dep _ (List.mem_map_of_mem (f := fun x : V × D => x.2) hm)
      omega
    · obtain ⟨h2, x2, at_⟩ := h.newF (o := .lst ((xs.mergeSort (PySem.W.dataLe false fun x => pd x.2)).map (·.1))) hq
      refine eq _ _ _ _ fr h2 x2 (.lst (at_ _) ?_) k
      rw [← em]
      exact (rpAll_pairs fun x hm => hx x (List.mem_mergeSort.mp hm)).mono (fF_mono x2.ex)
  | _ => exact k.elim
/-- sorted(set(xs)), whole numbers -/
@[reducible] def wSorSet (wa : WE) : WE := fun ex Γ Q => wa ex Γ fun d _ Γ1 => ∃ ns : List Int, d = .lst (ns.map .int) ∧ ns.length < 64 ∧ ∀ ms : List Int, ms.Pairwise (· < ·) → (∀ k : Int, k ∈ ms ↔ k ∈ ns) → Q (.lst (ms.map .int)) true Γ1
theorem pw_sortSet (hc : X.calm = true) (hm : X.mg "sorted" = none) (hm2 : X.mg "set" = none) (hv : bootBuiltins "sorted" = some (.builtin "sorted")) (hv2 : bootBuiltins "set" = some (.type "set")) (ha : PWE X E a wa) (hg : Gl X "sorted" := by rfl) (hg2 : Gl X "set" := by rfl)
    (na : starEach [a] X.env = (false, eval a X.env) :: starEach [] X.env := by rfl) (nb : starEach [.Call (.Name "set" p1) [a] [] pos1] X.env = (false, eval (.Call (.Name "set" p1) [a] [] pos1) X.env) :: starEach [] X.env := by rfl)
    (hpl : (backTo pos (starEach [] X.env)).any (·.1) = false := by rfl) (hpl1 : (backTo pos1 (starEach [] X.env)).any (·.1) = false := by rfl) :
    PWE X E (.Call (.Name "sorted" p) [.Call (.Name "set" p1) [a] [] pos1] [] pos) (wSorSet wa) := by
  obtain ⟨ta, pa, ka⟩ := ha
  refine ⟨_, pe_callB (cr_sortedSet hc) hg hm hv (pa_cons (pe_callTy (cr_setLI hc) hg2 hm2 hv2 (pa_cons pa pa_nil na) (by decide) (by decide) na hpl1) pa_nil nb) (by decide) (by decide) nb hpl, fun R F H σ Γ ex Q Qt g h eq w => ?_⟩
  refine ka R F H σ Γ ex _ _ g h (fun v F1 H1 Γ1 d fr h1 x1 r1 w1 => ?_) w
  obtain ⟨ns, e, hl, k⟩ := w1
  subst e
  obtain ⟨q, vs, e1, e2, r⟩ := vw_sees h1 (vw := .val (.lst (ns.map .int)) fr) r1 rfl
  subst e1
  have e5 := r.of_ints
  subst e5
  refine ⟨q, ns, rfl, .inl (.inl e2), by omega, fun c s hcn hs => ?_⟩
  obtain ⟨h2, f2, z2, n2⟩ := h1.newO (o := SetO X.w s (fun j => decide (j ∈ ns)) c) hs
  refine ⟨s, _, c, rfl, upd_same, by omega, fun ms l hp hm hn hl => ?_⟩
  obtain ⟨h3, x3, at_⟩ := h2.newF (o := .lst (ms.map V.int)) hl
  have n12 : Nx σ F1 H1 Γ1 F1 (upd H1 s (SetO X.w s (fun j => decide (j ∈ ns)) c)) Γ1 := .grow (Ex.refl _) (Ex.new hs) fun a u e => .inl e
  exact eq _ _ _ Γ1 _ true h3 ((x1.trans n12).trans x3) (.lst (at_ _) (RpAll.ints ms)) (k ms hp fun j => by rw [hm j, decide_eq_true_eq])

/-! ### zip -/
def zipD (ds : List D) (f : Bool) (es : List D) (g : Bool) : List (D × Bool) := (ds.zip es).map fun q => (.tup [q.1, q.2], f && g)
@[reducible] def wItZ (wa wb : WE) : WI := fun ex Γ Q => wa ex Γ fun d f Γ1 => wb ex Γ1 fun d2 g Γ2 => match d, d2 with
  | .lst ds, .lst es => Q (zipD ds f es g) [] Γ2
  | _, _ => False
theorem zip_get {ds es : List D} {f g f2 : Bool} {i : Nat} {d : D} (h : (zipD ds f es g)[i]? = some (d, f2)) : ∃ y z, ds[i]? = some y ∧ es[i]? = some z ∧ d = .tup [y, z] ∧ f2 = (f && g) := by
  unfold zipD at h
  rw [List.getElem?_map] at h
  cases q : (ds.zip es)[i]? with
  | none => rw [q] at h; cases h
  | some z =>
    rw [q] at h
    obtain ⟨y, z⟩ := z
    obtain ⟨h1, h2⟩ := List.getElem?_zip_eq_some.mp q
    simp at h
    exact ⟨y, z, h1, h2, h.1.symm, h.2.symm⟩
theorem pi_zp {elts : List Expr} {kk : Nat} {tpos : Pos} (hm : X.mg "zip" = none) (ha : PWE X E a wa) (hb : PWE X E b wb) (hg : Gl X "zip" := by rfl) (hs : starEach [a, b] X.env = (false, eval a X.env) :: starEach [b] X.env := by rfl)
    (hs2 : starEach [b] X.env = (false, eval b X.env) :: starEach [] X.env := by rfl) (hpl : (backTo pos (starEach [b] X.env)).any (·.1) = false := by rfl) : PWI X E (.Tuple elts kk tpos) (.Call (.Name "zip" p) [a, b] [] pos) (wItZ wa wb) := by
  obtain ⟨ta, pa, ka⟩ := ha
  obtain ⟨tb, pb, kb⟩ := hb
  refine ⟨_, RZ.pi_zipA hg hm (pa_cons pa (pa_cons pb pa_nil hs2) hs) hs hpl, fun R F H σ Γ ex Q Rt g h iq w => ?_⟩
  refine ka R F H σ Γ ex _ _ g h (fun v F1 H1 Γ1 d f h1 x1 r1 w1 => kb R F1 H1 σ Γ1 ex _ _ g h1 (fun u F2 H2 Γ2 d2 f2 h2 x2 r2 w2 => ?_) w1) w
  cases d with
  | lst ds => cases d2 with
    | lst es =>
      have r1' := r1.mono (fF_mono x2.ex)
      cases r1' with
      | lst z1 ra => cases r2 with
        | lst z2 rb =>
          rename_i q1 vs q2 us
          have l1 := RdD.lst (h2.sub _ _ (fF_ex _ _ z1))
          have l2 := RdD.lst (h2.sub _ _ (fF_ex _ _ z2))
          refine ⟨q1, q2, vs, us, rfl, .inl ⟨sql_of l1, sql_of l2, ?_⟩⟩
          refine iq _ F2 H2 Γ2 _ _ h2 (x1.trans x2) (fun i F' H' σ' Γ' xF h' _ => ?_) w2
          have s1 := RdD.lst (h'.sub _ _ (xF _ _ (fF_ex _ _ z1)))
          have s2 := RdD.lst (h'.sub _ _ (xF _ _ (fF_ex _ _ z2)))
          refine ⟨fun d fd hi => ?_, fun hi => ⟨vs, us, sql_of s1, sql_of s2, ?_⟩⟩
          · obtain ⟨y, z, hy, hz, ed, ef⟩ := zip_get hi
            subst ed
            subst ef
            obtain ⟨y', ey, ry⟩ := ra.get hy
            obtain ⟨z', ez, rz⟩ := rb.get hz
            refine ⟨⟨vs, us, y', z', sql_of s1, sql_of s2, ey, ez⟩, fun x H2' hyl => ?_⟩
            obtain ⟨T, y2, z2', e3, hT, eH, k1, k2⟩ := hyl
            have q1 := k1 _ (sql_of s1)
            rw [ey] at q1
            cases q1
            have q2 := k2 _ (sql_of s2)
            rw [ez] at q2
            cases q2
            subst e3
            subst eH
            obtain ⟨h3, x3, at_⟩ := h'.newF (o := .tup [y', z']) hT
            refine ⟨_, x3.ex, Ex.new hT, h3.sub, fun a u z => ?_, ?_⟩
            · by_cases ha : a = T
              · rw [ha]; exact .inr hT
              · rw [upd_ne ha] at z
                exact .inl z
            · have ry' : Rpf R (upd F' T (.tup [y', z'])) f y' y := Rp.mono (fF_mono (xF.trans x3.ex)) ry
              have rz' : Rpf R (upd F' T (.tup [y', z'])) f2 z' z := Rp.mono (fF_mono (xF.trans x3.ex)) rz
              obtain ⟨a1, a2⟩ := rp_both (f := f) (fr := f2) (RpAll.cons ry' .nil) rz'
              cases a1 with
              | cons a1 _ => exact .tup (at_ _) (.cons a1 (.cons a2 .nil))
          · unfold zipD at hi
            rw [List.length_map, List.length_zip] at hi
            rw [ra.length, rb.length]
            omega
    | _ => exact w2.elim
  | _ => exact w2.elim

/-! ### slices -/
abbrev WO := EX → En → (Option Int → En → Prop) → Prop
def OQ (R : Rl) (F H : Hp) (σ : L2.St) (Γ : En) (Q : Option Int → En → Prop) (Qt : Option Int → Hp → Prop) : Prop := ∀ o F' H' Γ', Hd R F' H' σ Γ' → Nx σ F H Γ F' H' Γ' → Q o Γ' → Qt o H'
def PWO (X : Cx) (E : XK) (e : Option Expr) (w : WO) : Prop := ∃ t : TO, PO X e t ∧ ∀ (R : Rl) (F H : Hp) (σ : L2.St) (Γ : En) (ex : EX) Q Qt, Go X R E ex → Hd R F H σ Γ → OQ R F H σ Γ Q Qt → w ex Γ Q → t σ H Qt
@[reducible] def wNoP : WO := fun _ Γ Q => Q none Γ
@[reducible] def wPart (we : WE) : WO := fun ex Γ Q => we ex Γ fun d _ Γ1 => match d with
  | .int i => Q (some i) Γ1
  | _ => False
theorem pwo_none : PWO X E none wNoP := ⟨_, po_none, fun R F H σ Γ ex Q Qt g h eq w => eq none F H Γ h Nx.refl w⟩
theorem pwo_some (ha : PWE X E a wa) : PWO X E (some a) (wPart wa) := by
  obtain ⟨ta, pa, ka⟩ := ha
  refine ⟨_, po_some pa, fun R F H σ Γ ex Q Qt g h eq w => ka R F H σ Γ ex _ _ g h (fun v F1 H1 Γ1 d fr h1 x1 r1 w1 => ?_) w⟩
  cases d with
  | int i => exact ⟨i, rp_int r1, eq _ F1 H1 Γ1 h1 x1 w1⟩
  | _ => exact w1.elim
def cutD (xs : List D) (lo hi : Option Int) : List D := (xs.drop (HT.sIx xs.length 0 lo)).take (HT.sIx xs.length xs.length hi - HT.sIx xs.length 0 lo)
theorem rp_cut {F : Hp} {vs : List V} {ds : List D} (r : RpAll F vs ds) (lo hi : Option Int) : RpAll F (cutV vs lo hi) (cutD ds lo hi) := by
  unfold cutV cutD
  rw [r.length]
  exact (r.drop _).take _
@[reducible] def wSl (va : WV) (wl wh : WO) : WE := fun ex Γ Q => va ex Γ fun vw Γ1 => wl ex Γ1 fun lo Γ2 => wh ex Γ2 fun hi Γ3 => match lkV Γ3 vw with
  | some (.lst ds, fr) => Q (.lst (cutD ds lo hi)) fr Γ3
  | _ => False
variable {lo hi : Option Expr} {wl wh : WO}
theorem pw_sl (ha : PWV X E a va) (hl : PWO X E lo wl) (hh : PWO X E hi wh) : PWE X E (.Subscript a (.Slice lo hi none p2) pos) (wSl va wl wh) := by
  obtain ⟨ta, pa, ka⟩ := ha
  obtain ⟨tl, pl, kl⟩ := hl
  obtain ⟨th, ph, kh⟩ := hh
  refine ⟨_, pe_slice sl_list pa pl ph, fun R F H σ Γ ex Q Qt g h eq w => ?_⟩
  refine ka R F H σ Γ ex _ _ g h (fun v F1 H1 Γ1 vw h1 x1 r1 w1 => kl R F1 H1 σ Γ1 ex _ _ g h1 (fun o1 F2 H2 Γ2 h2 x2 w2 => kh R F2 H2 σ Γ2 ex _ _ g h2 (fun o2 F3 H3 Γ3 h3 x3 w3 => ?_) w2) w1) w
  cases l : lkV Γ3 vw with
  | none => simp only [l] at w3
  | some q =>
    obtain ⟨d, fr⟩ := q
    cases d with
    | lst ds =>
      simp only [l] at w3
      obtain ⟨q, vs, e1, e2, r⟩ := vw_sees h3 (r1.mono (x2.trans x3).ex) l
      refine ⟨q, vs, e1, sql_of e2, fun y hy => ?_⟩
      obtain ⟨h4, x4, at_⟩ := h3.newF (o := .lst (cutV vs o1 o2)) hy
      exact eq _ _ _ Γ3 _ fr h4 (((x1.trans x2).trans x3).trans x4) (.lst (at_ _) ((rp_cut r o1 o2).mono (fF_mono x4.ex))) w3
    | _ => simp only [l] at w3
theorem pn_sl (ha : PWV X E a va) (hl : PWO X E lo wl) (hh : PWO X E hi wh) : PWN X E (.Subscript a (.Slice lo hi none p2) pos) (wSl va wl wh) := by
  obtain ⟨ta, pa, ka⟩ := ha
  obtain ⟨tl, pl, kl⟩ := hl
  obtain ⟨th, ph, kh⟩ := hh
  refine ⟨_, pe_slice sl_list pa pl ph, fun R F H σ Γ ex Q Qt g h eq w => ?_⟩
  refine ka R F H σ Γ ex _ _ g h (fun v F1 H1 Γ1 vw h1 x1 r1 w1 => kl R F1 H1 σ Γ1 ex _ _ g h1 (fun o1 F2 H2 Γ2 h2 x2 w2 => kh R F2 H2 σ Γ2 ex _ _ g h2 (fun o2 F3 H3 Γ3 h3 x3 w3 => ?_) w2) w1) w
  cases l : lkV Γ3 vw with
  | none => simp only [l] at w3
  | some q =>
    obtain ⟨d, fr⟩ := q
    cases d with
    | lst ds =>
      simp only [l] at w3
      obtain ⟨q, vs, e1, e2, r⟩ := vw_sees h3 (r1.mono (x2.trans x3).ex) l
      refine ⟨q, vs, e1, sql_of e2, fun y hy => ?_⟩
      obtain ⟨h4, f4, z4, n4⟩ := h3.newO (o := .lst (cutV vs o1 o2)) hy
      exact eq y F3 _ Γ3 (.lst _) fr h4 (((x1.trans x2).trans x3).newO hy) (((x1.trans x2).trans x3).was hy) ⟨y, rfl, f4, z4, _, upd_same, rp_cut r o1 o2⟩ n4 w3
    | _ => simp only [l] at w3
/-- the script's first cells -/
@[reducible] def wSlScr (i : Nat) (wh : WO) : WE := fun ex Γ Q => match gt Γ i with
  | some (.scr ns) => wh ex Γ fun hi Γ1 => Q (.lst (cutD (ns.map .int) none hi)) true Γ1
  | _ => False
theorem SqL.at_ {K : PySem.W.Frag} {H H' : Hp} {a : Addr} {xs : List V} (h : SqL K H a xs) (k : ∀ o, H a = some o → H' a = some o) : SqL K H' a xs := by
  rcases h with h | h
  · rcases h with h | ⟨o, h⟩
    · exact .inl (.inl (k _ h))
    · exact .inl (.inr ⟨o, k _ h⟩)
  · exact .inr h
theorem pw_slScr (i : Nat) {px : Pos} (hh : PWO X E hi wh) (hN : X.N[i]? = some x := by rfl) (hv : Vis X.env.scope x := by first | exact Or.inl rfl | exact Or.inr (Or.inl rfl) | exact Or.inr (Or.inr rfl)) (hd : (x == ("__debug__" : Str)) = false := by decide) (hcd : (x == ("__classdict__" : Str)) = false := by decide) :
    PWE X E (.Subscript (.Name x px) (.Slice none hi none p2) pos) (wSlScr i wh) := by
  obtain ⟨th, ph, kh⟩ := hh
  refine ⟨_, pe_slice sl_list (pe_var hN hv hd hcd) po_none ph, fun R F H σ Γ ex Q Qt g h eq w => ?_⟩
  unfold wSlScr at w
  cases q : gt Γ i with
  | none => simp only [q] at w
  | some s =>
    obtain ⟨v, e1, ok⟩ := h.sl i s q
    cases s with
    | scr ns =>
      simp only [q] at w
      obtain ⟨a, e2, na, sq⟩ := ok
      refine ⟨v, e1, kh R F H σ Γ ex _ _ g h (fun o F3 H3 Γ3 h3 x3 w3 => ?_) w⟩
      refine ⟨a, ns.map V.int, e2, by rw [← g.K]; exact SqL.at_ sq fun o e => h3.base a o e na, fun y hy => ?_⟩
      obtain ⟨h4, x4, at_⟩ := h3.newF (o := .lst (cutV (ns.map V.int) none o)) hy
      exact eq _ _ _ Γ3 _ true h4 (x3.trans x4) (.lst (at_ _) (rp_cut (RpAll.ints ns) none o)) w3
    | _ => simp only [q] at w
end
end Y

/-! Y: part 14: pairs of names at once, repr, calls by keywords, slices by a step. -/
namespace Y
open PySem PySem.Spec PyProof.Rows L2

/-! ### what goes into a slot -/
def MQ (R : Rl) (F H : Hp) (σ : L2.St) (Γ : En) (Q : Sl → En → Prop) (Qt : VK) : Prop := ∀ v F' H' Γ' s, Hd R F' H' σ Γ' → Nx σ F H Γ F' H' Γ' → SlOk R F' H' v s → (owny s = true → ∃ p o fr, v = .ref p ∧ s = .own o fr ∧ H p = none ∧ ¬ Ow σ Γ' p) → ((∃ d fr, s = .dat d fr) ∨ ∃ o fr, s = .own o fr) → Q s Γ' → Qt v H'
abbrev WM := EX → En → (Sl → En → Prop) → Prop
def PWM (X : Cx) (E : XK) (e : Expr) (w : WM) : Prop := ∃ te : TE, PE X e te ∧ ∀ (R : Rl) (F H : Hp) (σ : L2.St) (Γ : En) (ex : EX) Q Qt, Go X R E ex → Hd R F H σ Γ → MQ R F H σ Γ Q Qt → w ex Γ Q → te σ H Qt
@[reducible] def wDat (we : WE) : WM := fun ex Γ Q => we ex Γ fun d fr Γ' => Q (.dat d fr) Γ'
@[reducible] def wOwn (we : WE) : WM := fun ex Γ Q => we ex Γ fun d fr Γ' => Q (.own d fr) Γ'
section
variable {X : Cx} {E : XK} {e a b c : Expr} {es : List Expr} {pos p p2 : Pos} {x y z : Str} {wa wb wc : WE} {va vb : WV} {ma mb mc : WM}
theorem pm_dat (h : PWE X E e wa) : PWM X E e (wDat wa) := by
  obtain ⟨t, pt, kt⟩ := h
  exact ⟨t, pt, fun R F H σ Γ ex Q Qt g h eq w => kt R F H σ Γ ex _ _ g h (fun v F' H' Γ' d fr h' x r q => eq v F' H' Γ' (.dat d fr) h' x r (fun z => by cases z) (.inl ⟨_, _, rfl⟩) q) w⟩
theorem pm_own (h : PWN X E e wa) : PWM X E e (wOwn wa) := by
  obtain ⟨t, pt, kt⟩ := h
  exact ⟨t, pt, fun R F H σ Γ ex Q Qt g h eq w => kt R F H σ Γ ex _ _ g h (fun p F' H' Γ' o fr h' x hp r n q => eq _ F' H' Γ' (.own o fr) h' x r (fun _ => ⟨p, o, fr, rfl, rfl, hp, n⟩) (.inr ⟨_, _, rfl⟩) q) w⟩
/-- a slot's content stays while another is made -/
theorem sl_stay {R : Rl} {F H F' H' : Hp} {σ : L2.St} {Γ Γ' : En} {v : V} {s : Sl} (ok : SlOk R F H v s) (hs : (∃ d fr, s = .dat d fr) ∨ ∃ o fr, s = .own o fr) (hn : ∀ p, v = .ref p → owny s = true → ¬ Ow σ Γ p) (x : Nx σ F H Γ F' H' Γ') : SlOk R F' H' v s := by
  rcases hs with ⟨d, fr, e⟩ | ⟨o, fr, e⟩
  · subst e
    exact Rp.mono (fF_mono x.ex) ok
  · subst e
    obtain ⟨p, e1, e2, e3, t⟩ := ok
    have no := hn p e1 rfl
    obtain ⟨u, hu⟩ := t.there
    refine ⟨p, e1, ?_, e3, t.mono (fF_mono x.ex) fun u k => x.keep _ _ k no⟩
    cases q : F' p with
    | none => rfl
    | some w =>
      rcases x.new p w q with z | z | z
      · rw [e2] at z; cases z
      · rw [hu] at z; cases z
      · exact absurd z no
theorem put_any {R : Rl} {F H : Hp} {σ : L2.St} {Γ : En} (h : Hd R F H σ Γ) {i : Nat} {v : V} {s : Sl} (ok : SlOk R F H v s) (hs : (∃ d fr, s = .dat d fr) ∨ ∃ o fr, s = .own o fr) (hn : ∀ p, v = .ref p → owny s = true → ¬ Ow σ Γ p) : Hd R F H (σ.set i (some v)) (st Γ i (some s)) := by
  rcases hs with ⟨d, fr, e⟩ | ⟨o, fr, e⟩
  · subst e
    exact h.put ok rfl
  · subst e
    obtain ⟨p, e1, e2⟩ := id ok
    subst e1
    exact h.putOwn ok (hn p rfl rfl)
theorem ow_putA {σ : L2.St} {Γ : En} {i : Nat} {v : V} {s : Sl} {q : Addr} (hq : v ≠ .ref q) (h : Ow (σ.set i (some v)) (st Γ i (some s)) q) : Ow σ Γ q := by
  obtain ⟨j, t, e1, e2, e3⟩ := h
  by_cases hj : j = i
  · subst hj
    by_cases hl : j < σ.length
    · rw [List.getElem?_set_self hl] at e3
      cases e3
      exact absurd rfl hq
    · rw [List.getElem?_eq_none (by simpa using hl)] at e3
      cases e3
  · rw [gt_st_ne hj] at e1
    rw [List.getElem?_set_ne (Ne.symm hj)] at e3
    exact ⟨j, t, e1, e2, e3⟩
@[reducible] def wPar (i j : Nat) (ma mb : WM) : WS := fun P Γ => ma P.xe Γ fun s Γ1 => mb P.xe Γ1 fun t Γ2 => P.nx (st (st Γ2 i (some s)) j (some t))
theorem ow_dat {R : Rl} {F H F' H' : Hp} {σ : L2.St} {Γ : En} {v : V} {s : Sl} (k : owny s = true → ∃ p o fr, v = .ref p ∧ s = .own o fr ∧ H p = none ∧ ¬ Ow σ Γ p) : ∀ p, v = .ref p → owny s = true → ¬ Ow σ Γ p := fun p e o => by
  obtain ⟨q, _, _, e2, _, _, n⟩ := k o
  rw [e] at e2
  cases e2
  exact n
theorem pws_par {px py pt : Pos} {kt k2 pt2} (i j : Nat) (ha : PWM X E a ma) (hb : PWM X E b mb) (hij : i ≠ j) (hc : X.calm = true) (hN : X.N.Nodup) (hw : swappedStores [.Tuple [.Name x px, .Name y py] kt pt] (.Tuple [a, b] k2 pt2) X.env = pure (some [x, y])) (hi : X.N[i]? = some x := by rfl) (hj : X.N[j]? = some y := by rfl)
    (hx : X.env.scope.names.lookup x = some .local := by rfl) (hy : X.env.scope.names.lookup y = some .local := by rfl)
    (hs : swapsWithSole [.Tuple [.Name x px, .Name y py] kt pt] (.Tuple [a, b] k2 pt2) pos.line X.env = pure false := by rfl)
    (he : starEach (a :: [b]) X.env = (false, eval a X.env) :: starEach [b] X.env := by rfl) (he2 : starEach (b :: []) X.env = (false, eval b X.env) :: starEach [] X.env := by rfl) :
    PWS X E (.Assign [.Tuple [.Name x px, .Name y py] kt pt] (.Tuple [a, b] k2 pt2) pos) (wPar i j ma mb) := by
  obtain ⟨ta, pa, ka⟩ := ha
  obtain ⟨tb, pb, kb⟩ := hb
  refine ⟨_, ps_par hc hN hi hj hij hx hy (pa_cons pa (pa_cons pb pa_nil he2) he) hw hs, fun R F H σ Γ P T g h s w => ?_⟩
  refine ka R F H σ Γ P.xe _ _ g h (fun v F1 H1 Γ1 s1 h1 x1 ok1 o1 c1 w1 => kb R F1 H1 σ Γ1 P.xe _ _ g h1 (fun u F2 H2 Γ2 s2 h2 x2 ok2 o2 c2 w2 => ?_) w1) w
  have n1 := ow_dat (R := R) (F := F) (F' := F1) (H' := H1) o1
  have n2 := ow_dat (R := R) (F := F1) (F' := F2) (H' := H2) o2
  have ok1' := sl_stay ok1 c1 n1 x2
  have n1' : ∀ p, v = .ref p → owny s1 = true → ¬ Ow σ Γ2 p := fun p e o z => n1 p e o (x2.ow p z)
  have h3 := put_any (i := i) h2 ok1' c1 n1'
  refine ⟨v, u, rfl, s.nx F2 H2 _ _ (put_any (i := j) h3 ok2 c2 fun p e o z => ?_) (x1.trans x2).ex w2⟩
  rcases c1 with ⟨d, fr, es⟩ | ⟨o', fr, es⟩
  · subst es
    exact n2 p e o (ow_put rfl h2.len z)
  · refine n2 p e o (ow_putA (fun ev => ?_) z)
    obtain ⟨q, _, _, e2, _, hq, _⟩ := o2 o
    rw [e] at e2
    cases e2
    subst ev
    subst es
    obtain ⟨q, e1, _, _, t⟩ := ok1
    cases e1
    obtain ⟨u, hu⟩ := t.there
    rw [hu] at hq
    cases hq

/-! ### repr -/
@[reducible] def kRepr : K1 := fun d _ Q => match d with
  | .lst _ => (plain d = true ∧ (pd d).showable = true ∧ (pd d).depth ≤ 60 ∧ (pd d).shown.length ≤ sizeLine) ∧ Q (.str (pd d).shown) true
  | .tup _ => (plain d = true ∧ (pd d).showable = true ∧ (pd d).depth ≤ 60 ∧ (pd d).shown.length ≤ sizeLine) ∧ Q (.str (pd d).shown) true
  | _ => False
def rReprD (K : PySem.W.Frag) : List V → Hp → VK → Prop := fun vs H Q => ∃ (a : Addr) (d : PyData), vs = [V.ref a] ∧ Dp K H (.ref a) d ∧ d.showable = true ∧ d.hasDict = false ∧ d.depth ≤ 60 ∧ d.shown.length ≤ sizeLine ∧ Q (.str d.shown) H
theorem cr_reprD (hg : X.A.guards = some []) (hu : X.A.units + 64 < cLine) : CallR X (.builtin "repr") (rReprD X.K) := by
  intro pins s σ H vs us Q I r h
  obtain ⟨a, d, rfl, hd, h1, h2, h3, h4, q⟩ := h
  rw [Vals.ref1 r]
  obtain ⟨as, rd⟩ := Dp.reads I _ _ (.ref a) hd rfl
  refine PySem.repr_of_reads' rd h1 (PyData.noDict_hsm h2) hg (by omega) (fun b o e => e) (fun h' u tk k => ?_) h4
  exact ⟨.str d.shown, H, I.kept k, ⟨u, rfl⟩, q⟩
theorem o_repr (hg : X.A.guards = some []) (hu : X.A.units + 64 < cLine) : CallR X (.builtin "repr") (rReprD X.K) ∧ OC1 X (rReprD X.K) kRepr := by
  refine ⟨cr_reprD hg hu, fun R F H σ Γ v d fr Q Qt hK h s eq k => ?_⟩
  cases d with
  | lst ds =>
    obtain ⟨⟨k1, k2, k3, k4⟩, k⟩ := k
    have dp := dp_lst (K := X.K) h.sub s k1
    obtain ⟨p, vs, e1, _⟩ := s
    subst e1
    exact ⟨p, _, rfl, dp, k2, PyData.hasDict_of_canLay _ (canLay_pd _ k1), k3, k4, eq _ F H _ true h Nx.refl (.str _) k⟩
  | tup ds =>
    obtain ⟨⟨k1, k2, k3, k4⟩, k⟩ := k
    have dp := sees_dp (K := X.K) h.sub s k1
    obtain ⟨p, vs, e1, _⟩ := s
    subst e1
    exact ⟨p, _, rfl, dp, k2, PyData.hasDict_of_canLay _ (canLay_pd _ k1), k3, k4, eq _ F H _ true h Nx.refl (.str _) k⟩
  | _ => exact k.elim

/-! ### calls by keywords alone -/
/-- the values in the parameters' order -/
def pmG {α : Type} (ix : List Nat) (l : List α) : List α := ix.filterMap (l[·]?)
theorem pm_vals {vs : List V} {us : List Value} (r : Vals vs us) : ∀ ix : List Nat, Vals (pmG ix vs) (pmG ix us)
  | [] => .nil
  | i :: ix => by
    have ih := pm_vals r ix
    unfold pmG at ih ⊢
    rw [List.filterMap_cons, List.filterMap_cons]
    cases q : vs[i]? with
    | none =>
      have l := r.length
      have q2 : us[i]? = none := by
        rw [List.getElem?_eq_none_iff] at q ⊢
        omega
      simp only [q2]
      exact ih
    | some v =>
      obtain ⟨u, e, ru⟩ := r.get q
      simp only [e]
      exact .cons ru ih
theorem pm_rp {F : Hp} {vs : List V} {ds : List D} (r : RpAll F vs ds) : ∀ ix : List Nat, RpAll F (pmG ix vs) (pmG ix ds)
  | [] => .nil
  | i :: ix => by
    have ih := pm_rp r ix
    unfold pmG at ih ⊢
    rw [List.filterMap_cons, List.filterMap_cons]
    cases q : vs[i]? with
    | none =>
      have l := r.length
      have q2 : ds[i]? = none := by
        rw [List.getElem?_eq_none_iff] at q ⊢
        omega
      simp only [q2]
      exact ih
    | some v =>
      obtain ⟨d, e, rd⟩ := r.get' q
      simp only [e]
      exact .cons rd ih
/-- how a call by keywords alone binds -/
def KBnd (K : PySem.W.Frag) (fd : FuncData) (ps ks : List Str) (ix : List Nat) : Prop := ∀ (s : Shared) (ws : List Value), K.In s.heap → ws.length = ks.length → BindsTo s fd ⟨[], ks.zip ws⟩ (ps.zip (pmG ix ws))
/-- the keywords' values -/
def PWK (X : Cx) (E : XK) (kws : List Keyword) (w : WA) : Prop := ∃ te : TA, PK X kws te ∧ SA X E te w
theorem pwk_nil : PWK X E [] wNil := ⟨_, pk_nil, fun R F H σ Γ ex Q Qt g h eq w => eq [] F H Γ [] h Nx.refl .nil w⟩
theorem pwk_cons {kws : List Keyword} {nm : Option Str} {kpos : Pos} {wr : WA} (ha : PWE X E e wa) (hr : PWK X E kws wr) : PWK X E (⟨nm, e, kpos⟩ :: kws) (wCons wa wr) := by
  obtain ⟨t, pt, kt⟩ := ha
  obtain ⟨u, pu, ku⟩ := hr
  exact ⟨_, pk_cons pt pu, fun R F H σ Γ ex Q Qt g h eq w => kt R F H σ Γ ex _ _ g h (fun v F1 H1 Γ1 d fr h1 x1 r1 w1 => ku R F1 H1 σ Γ1 ex _ _ g h1
    (fun vs F2 H2 Γ2 ds h2 x2 r2 q => eq (v :: vs) F2 H2 Γ2 ((d, fr) :: ds) h2 (x1.trans x2) (.cons (r1.mono (fF_mono x2.ex)) r2) q) w1) w⟩
@[reducible] def wCallK (ix : List Nat) (fs : FS) (wr : WA) : WE := fun ex Γ Q => wr ex Γ fun ds Γ1 => ds.length = ix.length ∧ fs (pmG ix (ds.map (·.1))) (fun d fr => Q d fr Γ1) ex
theorem pw_callK {k : Nat} {f : Addr} {fd : FuncData} {ps ks : List Str} {fs : FS} {wr : WA} {kws : List Keyword} {ix : List Nat} (Fn : FnG X.prog X.w X.K X.mg X.base k f fd ps (spF X.mg fs)) (hgd : X.A.guards = some []) (hr : Room k X.A) (hm : X.mg x = some (.ref f)) (hk : PySem.W.keepIn X.K (.ref f) = true) (hb : KBnd X.K fd ps ks ix)
    (hx : Passes (L2.CX X.prog X.w) X E) (ha : PWK X E kws wr) (hl : ks.length = ix.length := by rfl) (hg : Gl X x := by rfl) (hall : (backToKw pos (keywordEach kws X.env)).all (·.1.isSome) = true := by rfl) (hks : (backToKw pos (keywordEach kws X.env)).filterMap (·.1) = ks := by rfl)
    (hdb : (x == ("__debug__" : Str)) = false := by decide) (hpl : ((backTo pos (starEach [] X.env)).any (·.1) || (backToKw pos (keywordEach kws X.env)).any (·.1.isNone)) = false := by rfl) :
    PWE X E (.Call (.Name x p) [] kws pos) (wCallK ix fs wr) := by
  obtain ⟨t, pt, kt⟩ := ha
  refine ⟨fun σ H Q => t σ H fun vs H1 => vs.length = ix.length ∧ spF X.mg fs (pmG ix vs) H1 Q E, ?_, fun R F H σ Γ ex Q Qt g h eq w => ?_⟩
  · refine ⟨fun pins s σ H Q I h => ?_⟩
    refine wpAny_Call_Name_kw (ld_glob I hg hm ?_ hdb)
    refine PySem.W.callWith_KW0 (h₀ := X.base) I.ok.mod.kin hk hall (thn (pt.run pos pins s σ H _ I h) fun ws s1 ⟨vs, H1, I1, r, hlen, q⟩ => ⟨I1.kIn, ?_⟩) hpl
    rw [hks]
    have r2 := pm_vals r ix
    have hws : ws.length = ks.length := by rw [← r.length, hlen, hl]
    have n := Fn.many _ _ _ _ q
    show wpAny _ _ (call (.ref f) [] (ks.zip ws)) _ _ _
    refine wpAny_call (codeAny_mono (Fn.go (args := ⟨[], ks.zip ws⟩) hgd hr I1.env0 (hb s1 ws I1.kIn hws) r2 q) fun r s' hq => ?_)
    match r, hq with
    | .error e, hq => exact hx pins σ H1 s1 e s' I1 hq
    | .ok (.ret u), hq => exact I1.after hq
  · refine kt R F H σ Γ ex _ _ g h (fun vs F1 H1 Γ1 ds h1 x1 r1 w1 => ⟨by rw [r1.length]; exact w1.1, ?_⟩) w
    refine ⟨F1, pmG ix (ds.map (·.1)), _, ex, h1.sub, pm_rp r1.plain ix, w1.2, fun v F2 H2 d fr xH xF sub new r q => ?_, fun c C dd v d F2 H2 hm hex xH xF sub r hd => ?_⟩
    · obtain ⟨h2, r2⟩ := h1.called xH xF sub new r
      exact eq v F2 H2 Γ1 d fr h2 (x1.trans (.grow xF xH new)) r2 q
    · exact g.lk c C dd v d F2 H2 hm hex (fun a o e n => xH a o (h1.base a o e n)) (fun a o e => xF a o (h1.f0 a o e)) sub r hd

/-! ### xs[::k] -/
def pickL {α : Type} (xs : List α) (st : Option Int) : List α := (sliceRange (sliceBounds none none st xs.length).1 (sliceBounds none none st xs.length).2.1 (sliceBounds none none st xs.length).2.2).filterMap (xs[·]?)
theorem pick_vals {vs : List V} {us : List Value} (r : Vals vs us) (st : Option Int) : Vals (pickL vs st) (slicePick us.toArray none none st).toList := by
  have e : (slicePick us.toArray none none st).toList = pmG (sliceRange (sliceBounds none none st vs.length).1 (sliceBounds none none st vs.length).2.1 (sliceBounds none none st vs.length).2.2) us := by
    simp [slicePick, pmG, r.length]
  rw [e]
  exact pm_vals r _
@[reducible] def wSlK (va : WV) (wk : WE) : WE := fun ex Γ Q => va ex Γ fun vw Γ1 => wk ex Γ1 fun d _ Γ2 => match lkV Γ2 vw, d with
  | some (.lst ds, fr), .int k => k ≠ 0 ∧ Q (.lst (pickL ds (some k))) fr Γ2
  | _, _ => False
theorem pw_slK (ha : PWV X E a va) (hb : PWE X E b wb) : PWE X E (.Subscript a (.Slice none none (some b) p2) pos) (wSlK va wb) := by
  obtain ⟨ta, pa, ka⟩ := ha
  obtain ⟨tb, pb, kb⟩ := hb
  refine ⟨fun σ H Q => ta σ H fun x H1 => tb σ H1 fun y H2 => ∃ a xs k, x = .ref a ∧ y = .int k ∧ SqL X.K H2 a xs ∧ k ≠ 0 ∧ ∀ p, H2 p = none → Q (.ref p) (upd H2 p (.lst (pickL xs (some k)))), ?_, fun R F H σ Γ ex Q Qt g h eq w => ?_⟩
  · refine ⟨fun pins s σ H Q I h => ?_⟩
    refine Subscript_ (thn (pa.run pins s σ H _ I h) fun v s1 ⟨x, H1, I1, r1, q1⟩ => ?_)
    refine wpAny_Slice ?_
    rw [evalPart_none]
    refine wpAny_pure ?_
    refine wpAny_pure ?_
    rw [evalPart_some]
    refine thn (pb.run pins s1 σ H1 _ I1 q1) fun ku s3 ⟨y, H3, I3, ry, q, xs, k, e1, e2, sq, k0, q3⟩ => ?_
    subst e1
    subst e2
    obtain rfl : v = Value.ref q := r1
    obtain ⟨tk, rfl⟩ := ry
    have I4 : Inv X pins σ H3 { s3 with heap := s3.heap.push { cls := .type "slice", data := .fields #[.none, .none, .int k tk] } } := I3.kept (t' := s3.toks) fun b ob q => Heap.get?_push_of_some _ q
    obtain ⟨its, r, ht, hz⟩ := I4.list sq
    have hlen := r.length
    show wpAny (model X.prog X.w) X.A (subscriptTail a (.Slice none none (some b) p2) (.ref q) (.ref s3.heap.objs.size)) (EP X pins σ Q) X.xe { s3 with heap := s3.heap.push { cls := .type "slice", data := .fields #[.none, .none, .int k tk] } }
    refine PyProof.Rows.tail_any (ops := [.ref q, .ref s3.heap.objs.size]) ht.isList.typeIs PySem.list_getitem_lookup ?_ (by rfl)
    refine wpAny_getItem_list_slice ht.isList (Heap.IsSliceOf.new ..) .none .none (.int k tk) (fun z => k0 (Option.some.inj z)) ?_ (by rw [List.size_toArray] <;> omega)
    refine ⟨.ref _, _, I4.laid (t' := s3.toks) (o := .lst (pickL xs (some k))) (fun b ob q => Heap.get?_push_of_some _ q) (Nat.le_refl _) ?_, rfl, q3 _ (I4.hok.fresh (Nat.le_refl _))⟩
    have pv := pick_vals r (some k)
    have sz := slicePick_size_le its.toArray none none (some k)
    refine ⟨?_, _, 0, pv, Heap.get?_push_size _ rfl⟩
    have e1 : (pickL xs (some k)).length = (slicePick its.toArray none none (some k)).size := by rw [pv.length, Array.length_toList]
    have e2 : its.toArray.size = its.length := List.size_toArray
    omega
  · refine ka R F H σ Γ ex _ _ g h (fun v F1 H1 Γ1 vw h1 x1 r1 w1 => kb R F1 H1 σ Γ1 ex _ _ g h1 (fun y F2 H2 Γ2 dy fy h2 x2 r2 w2 => ?_) w1) w
    cases l : lkV Γ2 vw with
    | none => simp only [l] at w2
    | some q =>
      obtain ⟨d, fr⟩ := q
      cases d with
      | lst ds => cases dy with
        | int k =>
          simp only [l] at w2
          obtain ⟨q, vs, e1, e2, r⟩ := vw_sees h2 (r1.mono x2.ex) l
          refine ⟨q, vs, k, e1, rp_int r2, sql_of e2, w2.1, fun y hy => ?_⟩
          obtain ⟨h4, x4, at_⟩ := h2.newF (o := .lst (pickL vs (some k))) hy
          have rr : RpAll (fF R F2 fr) (pickL vs (some k)) (pickL ds (some k)) := by
            have z := pm_rp r (sliceRange (sliceBounds none none (some k) vs.length).1 (sliceBounds none none (some k) vs.length).2.1 (sliceBounds none none (some k) vs.length).2.2)
            unfold pickL
            rw [← r.length]
            exact z
          exact eq _ _ _ Γ2 _ fr h4 ((x1.trans x2).trans x4) (.lst (at_ _) (rr.mono (fF_mono x4.ex))) w2.2
        | _ => simp only [l] at w2
      | _ => simp only [l] at w2
end
end Y

/-! Y: part 15: the law's own call, the end of a law. -/
namespace Y
open PySem PySem.Spec PyProof.Rows L2

/-- the law's promise: told of the script alone -/
theorem law_go {P : Program} {w : World} {K : PySem.W.Frag} {mg mb : Str → Option Value} {k : Nat} {fa a : Addr} {fd : FuncData} {x : Str} {sp : Sp} {s₁ : Shared} {vs : List Value} {ns : List Int}
    (KX : K.In s₁.heap) (hns : s₁.heap.Ns mainGlobals mg) (hb : s₁.heap.Ns builtinsNs mb) (hbb : ∀ x : Str, x ≠ "__name__" → mb x = bootBuiltins x) (hlim : s₁.heap.NoLimit) (hg : s₁.gens = #[])
    (ha : s₁.heap.get? a = some { cls := .type "list", data := .seq vs.toArray }) (hi : IntsAre vs ns) (hl : ns.length ≤ sizeLine) (hr : Room k callerA)
    (F : ∀ base : Heap, K.In base → base.Ns mainGlobals mg → FnG P w K mg base k fa fd [x] sp) (hbind : ∀ (s : Shared) (u : Value), BindsTo s fd ⟨[u], []⟩ [(x, u)])
    (hsp : ∀ H : Hp, Only H → SqL K H a (ns.map V.int) → sp [.ref a] H (fun v _ => v = .bl true) fun _ _ _ => False) :
    codeAny (model P w) callerA (.call (.ref fa) ⟨[.ref a], []⟩) (fun r s' => r = .ok (.ret (.bool true)) ∧ OldK s₁.heap s'.heap ∧ s'.os = s₁.os ∧ AllBare s'.gens) s₁ := by
  have rv := vals_ints hi
  have core : ∀ H : Hp, Only H → SqL K H a (ns.map V.int) → HOk P w H s₁.heap → (∀ b, H b ≠ none → b = a) → (H a ≠ none → K.lookup a = none) →
      codeAny (model P w) callerA (.call (.ref fa) ⟨[.ref a], []⟩) (fun r s' => r = .ok (.ret (.bool true)) ∧ OldK s₁.heap s'.heap ∧ s'.os = s₁.os ∧ AllBare s'.gens) s₁ := fun H hO hS hok hA hK => by
    have notA : ∀ {b : Addr}, (∀ o, s₁.heap.get? b = some o → b = a → False) → ∀ {o}, s₁.heap.get? b = some o → H b = none := fun {b} n {o} e => by
      cases q : H b with
      | none => rfl
      | some u => exact (n o e (hA b (by rw [q]; simp))).elim
    have nsK : ∀ {b : Addr} {m : Str → Option Value}, s₁.heap.Ns b m → (hidT s₁.heap H).Ns b m := fun {b m} ⟨o, es, ep, e, d, r⟩ => ⟨o, es, ep, hidT_get e (notA (fun o' e' z => by
      subst z
      rw [e] at e'
      cases e'
      rw [ha] at e
      cases e
      have d' : Data.seq vs.toArray _ = Data.dict es ep := d
      cases d') e), d, r⟩
    have hKb : K.In (hidT s₁.heap H) := fun b o e => hidT_get (KX b o e) (by
      cases q : H b with
      | none => rfl
      | some u =>
        have e' : b = a := hA b (by rw [q]; simp)
        subst e'
        rw [hK (by rw [q]; simp)] at e
        cases e)
    have hM : Mod K mg (hidT s₁.heap H) := ⟨hKb, nsK hns, ⟨mb, nsK hb, hbb⟩, hlim.elim fun mc h => ⟨mc, nsK h.1, h.2⟩⟩
    have e0 : Env0 P w K mg (hidT s₁.heap H) callerA [] s₁ H := ⟨rfl, hM, fun b o e => of_hidT e, Nat.le_of_eq (hidT_size _ _), trivial, fun b hb => (by cases hb), hok, .of_eq hg⟩
    refine codeAny_mono ((F _ hKb (nsK hns)).go (A := callerA) (outer := []) (args := ⟨[.ref a], []⟩) (us := [.ref a]) (vs := [.ref a]) rfl hr e0 (hbind s₁ (.ref a)) (.cons rfl .nil) (hsp H hO hS)) fun r s' h => ?_
    match r, h with
    | .error e, h =>
      obtain ⟨a, B, H', cls, d, e1, e2, e3, e4, e5, e6, e7, e8⟩ := h
      exact e8.elim
    | .ok .next, h => exact False.elim h
    | .ok .brk, h => exact False.elim h
    | .ok .cont, h => exact False.elim h
    | .ok (.ret u), ⟨v, H', os, bare, un, hok', r', q⟩ =>
      have q' : v = .bl true := q
      subst q'
      obtain rfl : u = Value.bool true := r'
      refine ⟨rfl, OldK.of_keep fun b o e => ?_, os, bare⟩
      cases q : H b with
      | none => exact un.keep b o e q (fun z => by cases z) (by simp)
      | some u =>
        rcases hO b with z | ⟨ob, xs, z⟩
        · rw [q] at z; cases z
        · have z2 := un.frzs b ob _ z
          obtain ⟨e1, _⟩ := hok b _ z
          obtain ⟨e2, _⟩ := hok' b _ z2
          rw [e] at e1
          cases e1
          exact e2
  cases hk : K.lookup a with
  | some o =>
    have e := KX a o hk
    rw [ha] at e
    cases e
    exact core (fun _ => none) (fun _ => .inl rfl) (.inr ⟨_, vs.toArray, _, hk, rfl, rfl, rfl, by rw [List.size_toArray, hi.length]; exact hl, by simpa using rv⟩) (fun b u z => (by have z' : (none : Option HO) = some u := z; cases z')) (fun b z => absurd rfl z) fun z => absurd rfl z
  | none =>
    have at1 : (fun b => if b = a then some (HO.frz { cls := .type "list", data := .seq vs.toArray } (.lst (ns.map V.int))) else none : Hp) a = some (.frz { cls := .type "list", data := .seq vs.toArray } (.lst (ns.map V.int))) := if_pos rfl
    have at0 : ∀ b, b ≠ a → (fun b => if b = a then some (HO.frz { cls := .type "list", data := .seq vs.toArray } (.lst (ns.map V.int))) else none : Hp) b = none := fun b hb => if_neg hb
    generalize (fun b => if b = a then some (HO.frz { cls := .type "list", data := .seq vs.toArray } (.lst (ns.map V.int))) else none : Hp) = H at at1 at0
    refine core H (fun b => ?_) (.inl (.inr ⟨_, at1⟩)) (fun b u z => ?_) (fun b z => ?_) fun _ => hk
    · by_cases hb : b = a
      · rw [hb]; exact .inr ⟨_, _, at1⟩
      · exact .inl (at0 b hb)
    · by_cases hb : b = a
      · subst hb
        rw [at1] at z
        cases z
        exact ⟨ha, by rw [List.length_map]; exact hl, vs, _, rv, ha⟩
      · rw [at0 b hb] at z
        cases z
    · by_cases hb : b = a
      · exact hb
      · exact absurd (at0 b hb) z
/-- what is asked of the law's def -/
def spLw (K : PySem.W.Frag) (n : Nat) : Sp := fun vs H Q _ => ∃ (a : Addr) (ns : List Int), vs = [.ref a] ∧ SqL K H a (ns.map V.int) ∧ ns.length ≤ n ∧ ∀ H', Q (.bl true) H'
def startL (N : List Str) (ns : List Int) : En := some (.scr ns) :: List.replicate (N.length - 1) none
theorem startL_get {N : List Str} {ns : List Int} {i : Nat} {s : Sl} (h : gt (startL N ns) i = some s) : i = 0 ∧ s = .scr ns := by
  cases i with
  | zero =>
    have h' : some (Sl.scr ns) = some s := h
    exact ⟨rfl, (Option.some.inj h').symm⟩
  | succ j =>
    have h' : gt (List.replicate (N.length - 1) none) j = some s := h
    have e := gt_get h'
    rw [List.getElem?_replicate] at e
    split at e <;> cases e
theorem Hd.startL {K : PySem.W.Frag} {H : Hp} {N : List Str} {a : Addr} {ns : List Int} (sq : SqL K H a (ns.map V.int)) : Hd ⟨K, H, H00, none, XT⟩ H00 H (L2.start N [.ref a]) (startL N ns) where
  sub := fun a u e => by cases e
  base := fun a o e _ => e
  f0 := fun a u e => e
  new := fun a u e => .inl e
  iof := fun a e => by cases e
  len := by
    unfold Y.startL L2.start
    simp
  sl := fun i s e => by
    obtain ⟨e1, e2⟩ := startL_get e
    subst e1
    subst e2
    exact ⟨.ref a, rfl, a, rfl, (fun z => by cases z), sq⟩
  sep := fun i j s t q e1 e2 o1 o2 p1 p2 => by
    obtain ⟨_, z⟩ := startL_get e1
    subst z
    cases o1
section
variable {P : Program} {w : World} {K : PySem.W.Frag} {mg : Str → Option Value} {base : Heap} {k n : Nat} {f : Addr} {x qual y : Str} {params : Arguments} {body : List Stmt} {scope : Scope} {fd : FuncData} {N : List Str}
theorem fn_law {wb : WS} (Fd : FunD K x qual params body scope [] [] f fd) (S : FnScope N [y] scope)
    (hb : ∀ (cdv : Value) (A : Around) (outer : List Env) (s : Shared) (H : Hp) (E : XK), (A.deeper (envOfC qual scope s.heap.objs.size f cdv)).guards = some [] → Room k (A.deeper (envOfC qual scope s.heap.objs.size f cdv)) →
      PWSs (bX P w K mg base N qual scope f cdv A outer s H E) E body wb)
    (pure : ∀ ns : List Int, ns.length ≤ n → wb { nx := fun _ => False, rt := fun d _ _ => d = .bl true } (startL N ns)) : FnG P w K mg base (k + 1) f fd [y] (spLw K n) := by
  refine fnG_of Fd S (fun vs H Q E h => ?_) fun cdv A outer s H vs Q E hg hr h => ?_
  · obtain ⟨a, ns, e, _⟩ := h
    rw [e]
    rfl
  · obtain ⟨a, ns, e, sq, hn, hq⟩ := h
    subst e
    obtain ⟨t, pt, kt⟩ := hb cdv A outer s H E hg hr
    refine ⟨t, pt, kt ⟨K, H, H00, none, XT⟩ H00 H (L2.start N [.ref a]) (startL N ns) { nx := fun _ => False, rt := fun d _ _ => d = .bl true } _ ⟨rfl, fun _ _ _ _ _ _ _ _ h => h.elim⟩ (Hd.startL sq) ?_ (pure ns hn)⟩
    exact ⟨fun _ _ _ _ _ _ z => z.elim, fun v F' H' σ' Γ' d fr h' x r' q => by
      subst q
      have e := rp_bl r'
      subst e
      exact hq H', fun _ _ _ _ _ _ z => z.elim, fun _ _ _ _ _ _ z => z.elim⟩
end
/-- the end of a law over a head by facts -/
theorem walk_y {l : PySem.W.OpenLaw} {n k : Nat} {q : Program} {loose : List Str} {XP : (Str → Option Value) → Heap → Prop} {YP : World → Heap → Prop} {d : DefRec} {x : Str}
    (hn : l.most = some n) (hn2 : n ≤ sizeLine) (hdf : d.params.defaults = []) (hr : Room k callerA)
    (F : ∀ (w : World) (mg : Str → Option Value) (fa : Addr) (h : Heap), YP w h → h.Ns mainGlobals mg → mg d.name = some (.ref fa) →
      ∃ (K : PySem.W.Frag) (fd : FuncData), K.In h ∧ (∀ (s : Shared) (u : Value), BindsTo s fd ⟨[u], []⟩ [(x, u)]) ∧
        ∀ base : Heap, K.In base → base.Ns mainGlobals mg → FnG l.prog w K mg base k fa fd [x] (spLw K n)) :
    PySem.W.WalkO q loose XP YP l.row.toRowW d [] (fun f vs => PySem.call f vs) := by
  refine Att.attach_call hn hdf fun w s₀ s₁ mg mb fa o pm cd doc a vs ns G Y ho hd hcd hmg hobj hints hlen hg => ?_
  obtain ⟨K, fd, KX, hb, hF⟩ := F w mg fa _ Y G.T.g hmg
  exact law_go KX G.T.g G.T.b G.T.builtins G.T.nolimit hg hobj hints (Nat.le_trans hlen hn2) hr hF hb fun H _ hS => ⟨a, ns, rfl, hS, hlen, fun _ => rfl⟩
end Y

/-! Y: part 16: a new frame from here on; a walk over new lists that the body changes. -/
namespace Y
open PySem PySem.Spec PyProof.Rows L2

/-! ### a new frame -/
@[reducible] def dimS (io : Bool) : Option Sl → Option Sl
  | some (.dat d _) => some (.old d)
  | some (.old d) => some (.old d)
  | some (.raw v) => some (.raw v)
  | some (.ino o) => if io then some (.ino o) else none
  | _ => none
@[reducible] def undS (io : Bool) : Option Sl → Option Sl
  | some (.dat d fr) => some (.dat d fr)
  | some (.old d) => some (.dat d false)
  | some (.own o fr) => some (.own o fr)
  | some (.raw v) => some (.raw v)
  | some (.ino o) => if io then some (.ino o) else none
  | _ => none
@[reducible] def mpS (f : Option Sl → Option Sl) : En → En
  | [] => []
  | s :: r => f s :: mpS f r
theorem mpS_length (f : Option Sl → Option Sl) : ∀ Γ : En, (mpS f Γ).length = Γ.length
  | [] => rfl
  | s :: r => congrArg (· + 1) (mpS_length f r)
@[reducible] def dim (io : Bool) (Γ : En) : En := mpS (dimS io) Γ
@[reducible] def und (io : Bool) (Γ : En) : En := mpS (undS io) Γ
theorem gt_map {f : Option Sl → Option Sl} (h0 : f none = none) : ∀ {Γ : En} {i : Nat}, gt (mpS f Γ) i = f (gt Γ i)
  | [], _ => h0.symm
  | _ :: _, 0 => rfl
  | _ :: r, i + 1 => gt_map h0 (Γ := r) (i := i)
theorem gt_dim {io : Bool} {Γ : En} {i : Nat} : gt (dim io Γ) i = dimS io (gt Γ i) := gt_map rfl
theorem gt_und {io : Bool} {Γ : En} {i : Nat} : gt (und io Γ) i = undS io (gt Γ i) := gt_map rfl
/-- the frame from here on -/
def Rl.from (R : Rl) (F H : Hp) (io : Option Addr) : Rl := ⟨R.K, H, F, io, XT⟩
section
variable {R : Rl} {F F' H H' : Hp} {σ σ' : L2.St} {Γ Γ' : En}
theorem Hd.h0n (h : Hd R F H σ Γ) {p : Addr} (e : H p = none) : R.H0 p = none := by
  rcases h.h0 e with q | q
  · exact q
  · exact absurd e (h.iof p q).2.2
theorem fF_back (h : Hd R F H σ Γ) {io : Option Addr} : ∀ {fr : Bool}, Ex (fF (R.from F H io) F' fr) (fF R F' fr)
  | true => fun a o e => by
    have e' : nw H F' a = some o := e
    unfold nw at e'
    cases q : H a with
    | none =>
      rw [q] at e'
      show nw R.H0 F' a = some o
      rw [nw_at (h.h0n q)]
      exact e'
    | some u => rw [q] at e'; cases e'
  | false => Ex.refl _
/-- into the new frame: the changeable argument as it was -/
theorem Hd.rebase (h : Hd R F H σ Γ) : Hd (R.from F H R.io) F H σ (dim true Γ) where
  sub := h.sub
  base := fun a o e _ => e
  f0 := fun a u e => e
  new := fun a u e => .inl e
  iof := fun a e => ⟨(h.iof a e).1, (h.iof a e).2.2, (h.iof a e).2.2⟩
  len := by unfold dim; rw [mpS_length]; exact h.len
  sl := fun i s e => by
    rw [gt_dim] at e
    cases q : gt Γ i with
    | none => rw [q] at e; cases e
    | some t =>
      rw [q] at e
      obtain ⟨v, e1, ok⟩ := h.sl i t q
      refine ⟨v, e1, ?_⟩
      cases t with
      | dat d fr => cases e; exact ⟨Rp.mono fF_ex ok, trivial⟩
      | old d => cases e; exact ⟨Rp.mono h.f0 ok.1, trivial⟩
      | raw u => cases e; exact ok
      | ino o =>
        cases e
        obtain ⟨p, e1, e2, t⟩ := ok
        exact ⟨p, e1, e2, t⟩
      | own _ _ => cases e
      | scr _ => cases e
  sep := fun i j s t p e1 e2 o1 o2 p1 p2 => by
    have key : ∀ {i : Nat} {s : Sl}, gt (dim true Γ) i = some s → owny s = true → ∃ t, gt Γ i = some t ∧ owny t = true := fun {i s} e o => by
      rw [gt_dim] at e
      cases q : gt Γ i with
      | none => rw [q] at e; cases e
      | some t =>
        rw [q] at e
        cases t with
        | ino o => exact ⟨_, rfl, rfl⟩
        | dat d fr => cases e; cases o
        | old d => cases e; cases o
        | raw u => cases e; cases o
        | own _ _ => cases e
        | scr _ => cases e
    obtain ⟨t1, a1, b1⟩ := key e1 o1
    obtain ⟨t2, a2, b2⟩ := key e2 o2
    exact h.sep i j t1 t2 p a1 a2 b1 b2 p1 p2
/-- .. a new list the changeable one -/
theorem Hd.rebaseI (h : Hd R F H σ Γ) {i : Nat} {p : Addr} {us : List V} {os : List D} (hp : H p = some (.lst us)) (fp : F p = none) (ro : RpAll H00 us os) : Hd (R.from F H (some p)) F H (σ.set i (some (.ref p))) (st (dim false Γ) i (some (.ino (.lst os)))) where
  sub := h.sub
  base := fun a o e _ => e
  f0 := fun a u e => e
  new := fun a u e => .inl e
  iof := fun a e => by
    cases e
    exact ⟨fp, (by show H p ≠ none; rw [hp]; simp), (by rw [hp]; simp)⟩
  len := by rw [st_length, List.length_set]; unfold dim; rw [mpS_length]; exact h.len
  sl := fun j s e => by
    by_cases hj : j = i
    · subst hj
      have hl := gt_lt e
      rw [st_length] at hl
      rw [gt_st_same hl] at e
      cases e
      have hl' : j < σ.length := by rw [← h.len]; unfold dim at hl; rw [mpS_length] at hl; exact hl
      exact ⟨_, List.getElem?_set_self hl', p, rfl, rfl, us, hp, ro.mono fun _ _ z => by cases z⟩
    · rw [gt_st_ne hj, gt_dim] at e
      cases q : gt Γ j with
      | none => rw [q] at e; cases e
      | some t =>
        rw [q] at e
        obtain ⟨v, e1, ok⟩ := h.sl j t q
        refine ⟨v, by rw [List.getElem?_set_ne (Ne.symm hj)]; exact e1, ?_⟩
        cases t with
        | dat d fr => cases e; exact ⟨Rp.mono fF_ex ok, trivial⟩
        | old d => cases e; exact ⟨Rp.mono h.f0 ok.1, trivial⟩
        | raw u => cases e; exact ok
        | ino o => cases e
        | own _ _ => cases e
        | scr _ => cases e
  sep := fun a b s t q e1 e2 o1 o2 p1 p2 => by
    have key : ∀ {j : Nat} {s : Sl}, gt (st (dim false Γ) i (some (.ino (.lst os)))) j = some s → owny s = true → j = i := fun {j s} e o => by
      by_cases hj : j = i
      · exact hj
      · rw [gt_st_ne hj, gt_dim] at e
        cases q : gt Γ j with
        | none => rw [q] at e; cases e
        | some t =>
          rw [q] at e
          cases t with
          | dat d fr => cases e; cases o
          | old d => cases e; cases o
          | raw u => cases e; cases o
          | ino o => cases e
          | own _ _ => cases e
          | scr _ => cases e
    rw [key e1 o1, key e2 o2]
/-- back: what the new frame's changeable list is -/
def IoBack (R : Rl) (io : Option Addr) (keep : Bool) : Prop := match keep with
  | true => io = R.io
  | false => ∀ p, io = some p → R.H0 p = none
theorem IoBack.base {io : Option Addr} {keep : Bool} (b : IoBack R io keep) {a : Addr} {o : HO} (e : R.H0 a = some o) (n : R.io ≠ some a) : io ≠ some a := fun z => by
  cases keep with
  | true =>
    have b' : io = R.io := b
    exact n (by rw [← b']; exact z)
  | false =>
    have b' := b a z
    rw [e] at b'
    cases b'
theorem Hd.unbase (h : Hd R F H σ Γ) {io : Option Addr} {keep : Bool} (h' : Hd (R.from F H io) F' H' σ' Γ') (hb : IoBack R io keep) : Hd R F' H' σ' (und keep Γ') where
  sub := h'.sub
  base := fun a o e n => h'.base a o (h.base a o e n) (hb.base e n)
  f0 := fun a u e => h'.f0 a u (h.f0 a u e)
  new := fun a u e => by
    rcases h'.new a u e with q | q
    · exact h.new a u q
    · exact .inr (h.h0n q)
  iof := fun a e => by
    obtain ⟨h1, h2, h3⟩ := h.iof a e
    refine ⟨?_, h2, fun z => ?_⟩
    · cases q : F' a with
      | none => rfl
      | some u =>
        rcases h'.new a u q with z | z
        · have z' : F a = some u := z
          rw [h1] at z'; cases z'
        · exact absurd z h3
    · by_cases hio : io = some a
      · exact (h'.iof a hio).2.2 z
      · cases q : H a with
        | none => exact h3 q
        | some o =>
          have := h'.base a o q hio
          rw [z] at this; cases this
  len := by unfold und; rw [mpS_length]; exact h'.len
  sl := fun i s e => by
    rw [gt_und] at e
    cases q : gt Γ' i with
    | none => rw [q] at e; cases e
    | some t =>
      rw [q] at e
      obtain ⟨v, e1, ok⟩ := h'.sl i t q
      refine ⟨v, e1, ?_⟩
      cases t with
      | dat d fr => cases e; exact Rp.mono (fF_back h) ok
      | old d => cases e; exact Rp.mono h'.f0 ok.1
      | raw u => cases e; exact ok
      | own o fr =>
        cases e
        obtain ⟨p, e1, e2, e3, t⟩ := ok
        exact ⟨p, e1, e2, h.h0n e3, t.mono (fF_back h) fun _ k => k⟩
      | ino o =>
        cases keep with
        | true =>
          cases e
          obtain ⟨p, e1, e2, t⟩ := ok
          have e2' : io = some p := e2
          have hb' : io = R.io := hb
          exact ⟨p, e1, by rw [← hb']; exact e2', t⟩
        | false => cases e
      | scr _ => cases e
  sep := fun i j s t p e1 e2 o1 o2 p1 p2 => by
    have key : ∀ {i : Nat} {s : Sl}, gt (und keep Γ') i = some s → owny s = true → ∃ t, gt Γ' i = some t ∧ owny t = true := fun {i s} e o => by
      rw [gt_und] at e
      cases q : gt Γ' i with
      | none => rw [q] at e; cases e
      | some t =>
        rw [q] at e
        cases t with
        | ino o => exact ⟨_, rfl, rfl⟩
        | own o fr => exact ⟨_, rfl, rfl⟩
        | dat d fr => cases e; cases o
        | old d => cases e; cases o
        | raw u => cases e; cases o
        | scr _ => cases e
    obtain ⟨t1, a1, b1⟩ := key e1 o1
    obtain ⟨t2, a2, b2⟩ := key e2 o2
    exact h'.sep i j t1 t2 p a1 a2 b1 b2 p1 p2
theorem Go.rebase {X : Cx} {E : XK} {ex : EX} (g : Go X R E ex) (h : Hd R F H σ Γ) {io : Option Addr} {keep : Bool} (hb : IoBack R io keep) : Go X (R.from F H io) E ex :=
  ⟨g.K, fun c C dd v d F' H' hm hex b xF sub rv hd => g.lk c C dd v d F' H' hm hex (fun a o e n => b a o (h.base a o e n) (hb.base e n)) (fun a o e => xF a o (h.f0 a o e)) sub rv hd⟩
end

/-! ### a call that gives a new list of flat things -/
section
variable {X : Cx} {E : XK} {e a b c tg : Expr} {es : List Expr} {pos p : Pos} {x : Str} {wa wb wc : WE} {va vb : WV}
@[reducible] def wCallN (fs : FS) (wr : WA) : WE := fun ex Γ Q => wr ex Γ fun ds Γ1 => fs (ds.map (·.1)) (fun d fr => ∃ os, d = .lst os ∧ fr = true ∧ os.all flt = true ∧ Q (.lst os) true Γ1) ex
theorem not_ow {R : Rl} {F H : Hp} {σ : L2.St} {Γ : En} (h : Hd R F H σ Γ) {p : Addr} (hp : H p = none) : ¬ Ow σ Γ p := (h.newO (o := .lst []) hp).2.2.2
theorem pn_call {k : Nat} {f : Addr} {fd : FuncData} {ps : List Str} {fs : FS} {wr : WA} (Fn : FnG X.prog X.w X.K X.mg X.base k f fd ps (spF X.mg fs)) (hgd : X.A.guards = some []) (hr : Room k X.A) (hm : X.mg x = some (.ref f)) (hk : PySem.W.keepIn X.K (.ref f) = true) (hb : Binds X.K fd ps [])
    (hx : Passes (L2.CX X.prog X.w) X E) (ha : PWA X E (e :: es) wr) (hg : Gl X x := by rfl) (hdb : (x == ("__debug__" : Str)) = false := by decide) (he : starEach (e :: es) X.env = (false, eval e X.env) :: starEach es X.env := by rfl) (hpl : (backTo pos (starEach es X.env)).any (·.1) = false := by rfl) :
    PWN X E (.Call (.Name x p) (e :: es) [] pos) (wCallN fs wr) := by
  obtain ⟨t, pt, kt⟩ := ha
  refine ⟨_, pe_fnG Fn hgd hr hm hk hb hx pt hg hdb he hpl, fun R F H σ Γ ex Q Qt g h eq w => ?_⟩
  refine kt R F H σ Γ ex _ _ g h (fun vs F1 H1 Γ1 ds h1 x1 r1 w1 => ?_) w
  show spF X.mg fs (vs ++ []) H1 Qt E
  rw [List.append_nil]
  refine ⟨F1, ds.map (·.1), _, ex, h1.sub, r1.plain, w1, fun v F2 H2 d fr xH xF sub new r q => ?_, fun c C dd v d F2 H2 hm hex xH xF sub r hd => g.lk c C dd v d F2 H2 hm hex (fun a o e n => xH a o (h1.base a o e n)) (fun a o e => xF a o (h1.f0 a o e)) sub r hd⟩
  obtain ⟨os, e1, e2, fl, q⟩ := q
  subst e1
  subst e2
  cases r with
  | lst z ra =>
    rename_i q1 us
    have hn : H1 q1 = none := by
      cases y : H1 q1 with
      | none => rfl
      | some u =>
        have z' : nw H1 F2 q1 = some (.lst us) := z
        unfold nw at z'
        rw [y] at z'
        cases z'
    have h2 : Hd R F1 H2 σ Γ1 := h1.grow xH (Ex.refl _) (fun a u e => (h1.sub a u e).ex xH) fun a u e => .inl e
    exact eq q1 F1 H2 Γ1 (.lst os) true h2 (x1.trans (.grow (Ex.refl _) xH fun a u e => .inl e)) (x1.was hn) ⟨q1, rfl, h1.fNone hn, h1.h0n hn, us, RdD.lst (sub _ _ (nw_ex _ _ z)), flt_all fl ra⟩ (not_ow h1 hn) q
end

/-! ### for x in [new list for ..] -/
@[reducible] def lnGo (tg : WG) (te : WE) (vs : List Nat) : List (D × Bool) → List (List D) → En → (List (List D) → En → Prop) → Prop
  | [], acc, Γ, K => K acc Γ
  | x :: xs, acc, Γ, K => tg x.1 x.2 (wp Γ vs) fun Γ1 => te ex0 Γ1 fun d _ Γ2 => match d with
    | .lst os => os.all flt = true ∧ lnGo tg te vs xs (acc ++ [os]) (rs Γ Γ2 vs) K
    | _ => False
@[reducible] def fnGo (i : Nat) (body : WS) (P : DE) : List (List D) → En → Prop
  | [], Γ => P.nx Γ
  | os :: r, Γ => body { nx := fun Γ2 => fnGo i body P r (und false Γ2), ct := fun Γ2 => fnGo i body P r (und false Γ2), bk := fun Γ2 => P.nx (und false Γ2), rt := fun d fr Γ2 => P.rt d fr (und false Γ2), xe := P.xe } (st (dim false Γ) i (some (.ino (.lst os))))
@[reducible] def wForNew (i : Nat) (wi : WI) (tg : WG) (te : WE) (vs : List Nat) (body : WS) : WS := fun P Γ => wi P.xe Γ fun items dp Γ1 => dp = [] ∧ items.length ≤ sizeLine ∧ lnGo tg te vs items [] Γ1 fun oss Γ2 => fnGo i body P oss Γ2
/-- the new lists that the walk will change, as they stand -/
structure NewL (R : Rl) (F H : Hp) (σ : L2.St) (Γ : En) (p : Addr) (os : List D) : Prop where
  at_ : ∃ us, H p = some (.lst us) ∧ RpAll H00 us os
  f : F p = none
  h0 : R.H0 p = none
  ow : ¬ Ow σ Γ p
theorem NewL.nx {R : Rl} {F H F' H' : Hp} {σ : L2.St} {Γ Γ' : En} {p : Addr} {os : List D} (n : NewL R F H σ Γ p os) (x : Nx σ F H Γ F' H' Γ') : NewL R F' H' σ Γ' p os := by
  obtain ⟨us, e, r⟩ := n.at_
  refine ⟨⟨us, x.keep p _ e n.ow, r⟩, ?_, n.h0, fun z => n.ow (x.ow p z)⟩
  cases q : F' p with
  | none => rfl
  | some u =>
    rcases x.new p u q with z | z | z
    · rw [n.f] at z; cases z
    · rw [e] at z; cases z
    · exact absurd z n.ow
inductive NewLs (R : Rl) (F H : Hp) (σ : L2.St) (Γ : En) : List Addr → List (List D) → Prop
  | nil : NewLs R F H σ Γ [] []
  | cons {p : Addr} {os : List D} {ps : List Addr} {oss : List (List D)} : NewL R F H σ Γ p os → NewLs R F H σ Γ ps oss → NewLs R F H σ Γ (p :: ps) (os :: oss)
theorem NewLs.nx {R : Rl} {F H F' H' : Hp} {σ : L2.St} {Γ Γ' : En} (x : Nx σ F H Γ F' H' Γ') : ∀ {ps : List Addr} {oss : List (List D)}, NewLs R F H σ Γ ps oss → NewLs R F' H' σ Γ' ps oss
  | _, _, .nil => .nil
  | _, _, .cons a r => .cons (a.nx x) (r.nx x)
theorem NewLs.snoc {R : Rl} {F H : Hp} {σ : L2.St} {Γ : En} {p : Addr} {os : List D} (a : NewL R F H σ Γ p os) : ∀ {ps : List Addr} {oss : List (List D)}, NewLs R F H σ Γ ps oss → NewLs R F H σ Γ (ps ++ [p]) (oss ++ [os])
  | _, _, .nil => .cons a .nil
  | _, _, .cons b r => .cons b (r.snoc a)
theorem NewLs.there {R : Rl} {F H : Hp} {σ : L2.St} {Γ : En} : ∀ {ps : List Addr} {oss : List (List D)}, NewLs R F H σ Γ ps oss → ∀ p ∈ ps, H p ≠ none
  | _, _, .cons a r, p, hp => by
    rcases List.mem_cons.mp hp with e | hp
    · rw [e]
      obtain ⟨us, z, _⟩ := a.at_
      rw [z]; simp
    · exact r.there p hp
theorem NewLs.len {R : Rl} {F H : Hp} {σ : L2.St} {Γ : En} : ∀ {ps : List Addr} {oss : List (List D)}, NewLs R F H σ Γ ps oss → ps.length = oss.length
  | _, _, .nil => rfl
  | _, _, .cons _ r => congrArg (· + 1) r.len
/-- behind a turn of the body, in the outer frame: the lists that are still to come -/
theorem NewLs.unbase {R : Rl} {F H F' H' : Hp} {σ σ' : L2.St} {Γ Γ' : En} {p : Addr} (h' : Hd (R.from F H (some p)) F' H' σ' Γ') {ps : List Addr} {oss : List (List D)} (hp : p ∉ ps) (n : NewLs R F H σ Γ ps oss) : NewLs R F' H' σ' (und false Γ') ps oss := by
  induction n with
  | nil => exact .nil
  | @cons q os ps oss a r ih =>
    obtain ⟨us, e, ru⟩ := a.at_
    have ne : (R.from F H (some p)).io ≠ some q := fun z => hp (by cases z; exact List.mem_cons_self)
    have e' := h'.base q _ e ne
    refine .cons ⟨⟨us, e', ru⟩, ?_, a.h0, ?_⟩ (ih fun z => hp (List.mem_cons_of_mem _ z))
    · cases y : F' q with
      | none => rfl
      | some u =>
        rcases h'.new q u y with z | z
        · have z' : F q = some u := z
          rw [a.f] at z'; cases z'
        · have z' : H q = none := z
          rw [e] at z'; cases z'
    · rintro ⟨j, t, e1, e2, e3⟩
      rw [gt_und] at e1
      cases y : gt Γ' j with
      | none => rw [y] at e1; cases e1
      | some s =>
        rw [y] at e1
        obtain ⟨v, z1, ok⟩ := h'.sl j s y
        rw [e3] at z1
        cases z1
        cases s with
        | own o fr =>
          obtain ⟨q2, z2, _, z4, _⟩ := ok
          cases z2
          have z4' : H q = none := z4
          rw [e] at z4'
          cases z4'
        | dat d fr => cases e1; cases e2
        | old d => cases e1; cases e2
        | raw u => cases e1; cases e2
        | ino o => cases e1
        | scr _ => cases e1
theorem NewLs.upd {R : Rl} {F H : Hp} {σ : L2.St} {Γ : En} {q : Addr} {u : HO} {ps : List Addr} {oss : List (List D)} (hq : q ∉ ps) (n : NewLs R F H σ Γ ps oss) : NewLs R F (upd H q u) σ Γ ps oss := by
  induction n with
  | nil => exact .nil
  | @cons p os ps oss a r ih =>
    obtain ⟨us, e, ru⟩ := a.at_
    refine .cons ⟨⟨us, ?_, ru⟩, a.f, a.h0, a.ow⟩ (ih fun z => hq (List.mem_cons_of_mem _ z))
    rw [upd_ne (fun z => hq (by rw [← z]; exact List.mem_cons_self))]
    exact e
theorem NewLs.frz {R : Rl} {F H : Hp} {σ : L2.St} {Γ : En} {q : Addr} {u : HO} {ps : List Addr} {oss : List (List D)} (hq : q ∉ ps) (n : NewLs R F H σ Γ ps oss) : NewLs R (L2.upd F q u) H σ Γ ps oss := by
  induction n with
  | nil => exact .nil
  | @cons p os ps oss a r ih =>
    refine .cons ⟨a.at_, ?_, a.h0, a.ow⟩ (ih fun z => hq (List.mem_cons_of_mem _ z))
    rw [upd_ne (fun z => hq (by rw [← z]; exact List.mem_cons_self))]
    exact a.f
theorem NewLs.drop {R : Rl} {F H : Hp} {σ : L2.St} {Γ : En} : ∀ {ps : List Addr} {oss : List (List D)} (i : Nat), NewLs R F H σ Γ ps oss → NewLs R F H σ Γ (ps.drop i) (oss.drop i)
  | _, _, 0, h => h
  | _, _, _ + 1, .nil => .nil
  | _, _, i + 1, .cons _ r => r.drop i
section
variable {X : Cx} {E : XK}
theorem blk_n {scope : Scope} {e : Expr} {w : WE} (h : Blk X scope fun Y => PWN Y E0 e w) : ∃ te : TE, (Blk X scope fun Y => PE Y e te) ∧ SN X E0 te w := by
  refine ⟨fun σ H Q => ∀ (s : Shared) (H0 : Hp) (C : Addr) (cl : List (Str × Addr)) (fp : List Addr), (h s H0 C cl fp).choose σ H Q, fun s H0 C cl fp => ⟨fun pins st σ H Q I q => (h s H0 C cl fp).choose_spec.1.run pins st σ H Q I (q s H0 C cl fp)⟩, ?_⟩
  intro R F H σ Γ ex Q Qt g hd eq hw s H0 C cl fp
  exact (h s H0 C cl fp).choose_spec.2 R F H σ Γ ex Q Qt (go_blk g) hd eq hw
theorem lcn_run {wi : TI} {g : TG} {tt : TT} {te : TE} {w : WI} {wg : WG} {we : WE} {vs sl : List Nat} (ki : SI X E wi w) (kg : SG X sl g wg) (kt : ST X E0 tt wYes) (ke : SN X E0 te we) (hsl : ∀ j ∈ sl, j ∈ vs)
    {R : Rl} {F H : Hp} {σ : L2.St} {Γ : En} {ex : EX} {K : List (List D) → En → Prop} {Qt : VK} (gg : Go X R E ex) (h : Hd R F H σ Γ)
    (eq : ∀ q F' H' Γ' ps oss, Hd R F' H' σ Γ' → Nx σ F H Γ F' H' Γ' → F' q = none → R.H0 q = none → ¬ Ow σ Γ' q → H' q = some (.lst (ps.map V.ref)) → NewLs R F' H' σ Γ' ps oss → ps.Nodup → q ∉ ps → K oss Γ' → Qt (.ref q) H')
    (q : w ex Γ fun items dp Γ1 => dp = [] ∧ items.length ≤ sizeLine ∧ lnGo wg we vs items [] Γ1 K) : tLc wi g tt te vs σ H Qt := by
  refine ki R F H σ Γ ex _ _ gg h (fun J F1 H1 Γ1 items dp h1 x1 it q => ?_) q
  obtain ⟨ed, hsz, q⟩ := q
  subst ed
  intro D0 hD
  obtain ⟨hn, fn, zn, on⟩ := h1.newO (o := .lst []) hD
  refine ⟨fun i m Hc => m = items.length - i ∧ i ≤ items.length ∧ ∃ Fc Γc ps oss, Hd R Fc Hc σ Γc ∧ Nx σ F1 H1 Γ1 Fc Hc Γc ∧ Hc D0 = some (.lst (ps.map V.ref)) ∧ NewLs R Fc Hc σ Γc ps oss ∧ ps.Nodup ∧ D0 ∉ ps ∧ ps.length ≤ i ∧ Fc D0 = none ∧ ¬ Ow σ Γc D0 ∧
      lnGo wg we vs (items.drop i) oss Γc K, ⟨items.length, rfl, Nat.zero_le _, F1, Γ1, [], [], hn, Nx.refl.poke hD, upd_same, .nil, List.nodup_nil, (by simp), Nat.le_refl _, fn, on, q⟩, ?_⟩
  rintro i m Hc ⟨em, hi, Fc, Γc, ps, oss, hc, nc, eD, nl, nd, nq, hlen, fD, oD, q2⟩
  by_cases hlt : i < items.length
  · rw [drop_cons hlt] at q2
    obtain ⟨it1, _⟩ := it i Fc Hc σ Γc nc.ex hc (fun z hz => absurd hz (by simp))
    obtain ⟨go, yld⟩ := it1 items[i].1 items[i].2 (List.getElem?_eq_getElem hlt)
    refine .inr ⟨go, fun H' => ∃ Fc Γc ps oss, Hd R Fc H' σ Γc ∧ Nx σ F1 H1 Γ1 Fc H' Γc ∧ H' D0 = some (.lst (ps.map V.ref)) ∧ NewLs R Fc H' σ Γc ps oss ∧ ps.Nodup ∧ D0 ∉ ps ∧ ps.length ≤ i + 1 ∧ Fc D0 = none ∧ ¬ Ow σ Γc D0 ∧
      lnGo wg we vs (items.drop (i + 1)) oss Γc K, fun H' z => ⟨items.length - (i + 1), by omega, rfl, hlt, z⟩, fun x H2 hy => ?_⟩
    obtain ⟨F2, xF, xH, sub, new, rx⟩ := yld x H2 hy
    have h3 := hc.grow xH xF sub new
    have n3 : Nx σ Fc Hc Γc F2 H2 Γc := .grow xF xH new
    refine kg R F2 H2 _ _ x _ _ _ _ gg.K (h3.wiped vs) rx (fun σ4 Γ4 h4 s4 q4 => ?_) q2
    have out4 : ∀ j, j ∉ vs → σ4[j]? = σ[j]? := fun j hj => (s4.out j fun z => hj (hsl j z)).trans (wipe_out hj)
    have ow4 : ∀ a, Ow σ4 Γ4 a → Ow σ Γc a := fun a z => ow_wiped (s4.ow a z)
    have len4 : σ4.length = σ.length := s4.len.trans (wipe_length _ _)
    refine ⟨wipe_same len4 out4, ?_⟩
    refine kt R F2 H2 σ4 Γ4 ex0 (fun b Γ5 => b = true ∧ we ex0 Γ5 fun d fr Γ6 => match d with
      | .lst os => os.all flt = true ∧ lnGo wg we vs (items.drop (i + 1)) (oss ++ [os]) (rs Γc Γ6 vs) K
      | _ => False) _ (go_none gg.K) h4 (fun b F5 H5 Γ5 h5 x5 q5 => ?_) ⟨rfl, q4⟩
    obtain ⟨eb, q5⟩ := q5
    subst eb
    show (if true = true then _ else _)
    rw [if_pos rfl]
    refine ke R F5 H5 σ4 Γ5 _ _ _ (go_none gg.K) h5 (fun p F6 H6 Γ6 o fr h6 x6 hp ok np q6 => ?_) q5
    have x56 := x5.trans x6
    have o4 : ¬ Ow σ4 Γ4 D0 := fun z => oD (ow4 D0 z)
    have nb := n3.block ow4 x56 out4
    have e2 := xH _ _ eD
    have e6 : H6 D0 = some (.lst (ps.map V.ref)) := x56.keep D0 _ e2 o4
    have f6 : F6 D0 = none := by
      cases z : F6 D0 with
      | none => rfl
      | some u =>
        rcases nb.new D0 u z with y | y | y
        · rw [fD] at y; cases y
        · rw [eD] at y; cases y
        · exact absurd y oD
    have h7 := h3.unwiped h6 x56.ex len4 out4
    have o7 : ¬ Ow σ (rs Γc Γ6 vs) D0 := fun z => oD (nb.ow D0 z)
    have pD : p ≠ D0 := fun z => by
      rw [z] at hp
      exact x5.stay D0 (by rw [e2]; simp) hp
    obtain ⟨p', ep, fp, zp, t⟩ := ok
    cases ep
    cases o with
    | lst os =>
      obtain ⟨fl, q6⟩ := q6
      obtain ⟨us, eu, ru⟩ := t
      have nlp : NewL R F6 H6 σ (rs Γc Γ6 vs) p os := ⟨⟨us, eu, flt_all fl ru⟩, fp, zp, fun z => np (ow_rs out4 z)⟩
      have pps : p ∉ ps := fun z => x5.stay p (n3.stay p (nl.there p z)) hp
      have nq' : D0 ∉ ps ++ [p] := fun z => by
        rcases List.mem_append.mp z with z | z
        · exact nq z
        · exact pD (List.mem_singleton.mp z).symm
      refine ⟨ps.map V.ref, e6, by rw [List.length_map]; omega, F6, rs Γc Γ6 vs, ps ++ [p], oss ++ [os], h7.poke f6 o7 zn, (nc.trans nb).poke hD, ?_, ((nl.nx nb).snoc nlp).upd nq', ?_, nq', ?_, f6, o7, q6⟩
      · rw [upd_same, List.map_append]
        rfl
      · exact List.nodup_append.mpr ⟨nd, List.pairwise_singleton _ _, fun a ha b hb e => pps (by rw [List.mem_singleton.mp hb] at e; rw [← e]; exact ha)⟩
      · rw [List.length_append, List.length_singleton]; omega
    | _ => exact q6.elim
  · have e : i = items.length := by omega
    subst e
    rw [List.drop_length] at q2
    obtain ⟨_, it2⟩ := it items.length Fc Hc σ Γc nc.ex hc (fun z hz => absurd hz (by simp))
    exact .inl ⟨it2 (Nat.le_refl _), eq D0 Fc Hc Γc ps oss hc (x1.trans nc) fD zn oD eD nl nd nq q2⟩
variable {elt tg iter : Expr} {scope : Scope} {own : List (Str × Nat)} {pos lpos xpos : Pos} {x : Str} {sl : List Nat} {w : WI} {wg : WG} {we : WE} {body : List Stmt} {wb : WS}
theorem pws_forNew (i : Nat) (hp : PassesOwn (model X.prog X.w) X.A X.env X.xe) (hc : X.calm = true) (hN : X.N.Nodup) (ok : BlkOk X.N X.env.scope scope own) (hi : PWI X E tg iter w) (hg : Blk X scope fun Y => PWG Y sl tg wg) (he : Blk X scope fun Y => PWN Y E0 elt we) (hsl : ∀ j ∈ sl, j ∈ own.map (·.2)) (hb : PWSs X E body wb)
    (hx : Loc X.env.scope x := by first | exact Or.inl rfl | exact Or.inr rfl) (hxi : X.N[i]? = some x := by rfl) (hf : X.fn x = true ∨ X.env.scope.names.lookup x = some .local := by first | exact .inl rfl | exact .inr rfl | assumption)
    (hs : ∀ x, foldedSetIterable iter X.env x = pure x := by intro _; rfl) (hs2 : ∀ x, foldedSetIterable (.ListComp elt [⟨tg, iter, [], 0⟩] scope lpos) X.env x = pure x := by intro _; rfl) :
    PWS X E (.For (.Name x xpos) (.ListComp elt [⟨tg, iter, [], 0⟩] scope lpos) body [] pos) (wForNew i w wg we (own.map (·.2)) wb) := by
  obtain ⟨wi, pi, ki⟩ := hi
  obtain ⟨g, pg, kg⟩ := blk_g hg
  obtain ⟨tt, ptt, kt⟩ := blk_t (X := X) (scope := scope) (ifs := []) (w := wYes) fun s H C cl fp => pwts_nil
  obtain ⟨te, pte, ke⟩ := blk_n he
  obtain ⟨tb, pb, kb⟩ := hb
  refine ⟨_, ps_for hp hc (pi_list (pe_lc hc hN pi ok pg ptt pte hs)) (pg_name hN hxi hx hf) pb hs2, fun R F H σ Γ P T gg h s q => ?_⟩
  unfold tFor iList
  refine lcn_run ki kg kt ke hsl gg h (fun q F1 H1 Γ1 ps oss h1 x1 fq zq oq eq nl nd nq q1 => ?_) q
  obtain ⟨h2, at_⟩ := h1.frz fq oq zq eq
  have n2 : NewLs R (L2.upd F1 q (.lst (ps.map V.ref))) H1 σ Γ1 ps oss := nl.frz nq
  have x2 : Ex F (L2.upd F1 q (.lst (ps.map V.ref))) := x1.ex.trans (Ex.new fq)
  generalize hF2 : L2.upd F1 q (.lst (ps.map V.ref)) = F2 at h2 at_ n2 x2
  have fq2 : F2 q = some (.lst (ps.map V.ref)) := at_ false
  have ll : ps.length = oss.length := nl.len
  refine ⟨q, rfl, ⟨_, sql_of eq⟩, ?_⟩
  refine ⟨fun j m σ H => m = ps.length - j ∧ j ≤ ps.length ∧ ∃ Fc Γc, Ex F2 Fc ∧ Hd R Fc H σ Γc ∧ NewLs R Fc H σ Γc (ps.drop j) (oss.drop j) ∧ fnGo i wb P (oss.drop j) Γc, ⟨ps.length, rfl, Nat.zero_le _, F2, Γ1, Ex.refl _, h2, n2, q1⟩, ?_⟩
  rintro j m σ3 H3 ⟨em, hj, Fc, Γc, xc, hcc, nc, qc⟩
  have e3 : H3 q = some (.lst (ps.map V.ref)) := RdD.lst (hcc.sub _ _ (xc _ _ fq2))
  by_cases hlt : j < ps.length
  · have hlt2 : j < oss.length := by omega
    rw [List.drop_eq_getElem_cons hlt, List.drop_eq_getElem_cons hlt2] at nc
    rw [List.drop_eq_getElem_cons hlt2] at qc
    have ej : (ps.map V.ref)[j]? = some (.ref ps[j]) := by rw [List.getElem?_map, List.getElem?_eq_getElem hlt]; rfl
    refine .inr ⟨⟨_, _, sql_of e3, ej⟩, fun σ' H' => ∃ Fc Γc, Ex F2 Fc ∧ Hd R Fc H' σ' Γc ∧ NewLs R Fc H' σ' Γc (ps.drop (j + 1)) (oss.drop (j + 1)) ∧ fnGo i wb P (oss.drop (j + 1)) Γc, fun σ' H' z => ⟨ps.length - (j + 1), by omega, rfl, hlt, z⟩, fun y H4 hy => ?_⟩
    obtain ⟨eH, hy⟩ := hy
    subst eH
    have ey := hy _ (sql_of e3)
    rw [ej] at ey
    cases ey
    cases nc with
    | cons a r =>
      obtain ⟨us, eu, ru⟩ := a.at_
      have hbk : IoBack R (some ps[j]) false := fun p z => by
        cases z
        exact a.h0
      have pr : ps[j] ∉ ps.drop (j + 1) := by
        have z := nd.sublist (List.drop_sublist j ps)
        rw [List.drop_eq_getElem_cons hlt] at z
        exact (List.nodup_cons.mp z).1
      refine kb (R.from Fc H4 (some ps[j])) Fc H4 (σ3.set i (some (.ref ps[j]))) _ { nx := fun Γ2 => fnGo i wb P (oss.drop (j + 1)) (und false Γ2), ct := fun Γ2 => fnGo i wb P (oss.drop (j + 1)) (und false Γ2), bk := fun Γ2 => P.nx (und false Γ2), rt := fun d fr Γ2 => P.rt d fr (und false Γ2), xe := P.xe } _ (gg.rebase hcc hbk) (hcc.rebaseI eu a.f ru) ?_ qc
      have xx : Ex F Fc := x2.trans xc
      exact ⟨fun F' H' σ' Γ' hh x z => ⟨F', und false Γ', xc.trans x, hcc.unbase hh hbk, r.unbase hh pr, z⟩, fun v F' H' σ' Γ' d fr hh x rv z => s.rt v F' H' σ' (und false Γ') d fr (hcc.unbase hh hbk) (xx.trans x) (Rp.mono (fF_back hcc) rv) z,
        fun F' H' σ' Γ' hh x z => s.nx F' H' σ' (und false Γ') (hcc.unbase hh hbk) (xx.trans x) z, fun F' H' σ' Γ' hh x z => ⟨F', und false Γ', xc.trans x, hcc.unbase hh hbk, r.unbase hh pr, z⟩⟩
  · have e : j = ps.length := by omega
    subst e
    rw [ll, List.drop_length] at qc
    exact .inl ⟨⟨_, sql_of e3, by rw [List.length_map]; exact Nat.le_refl _⟩, s.nx Fc H3 σ3 Γc hcc (x2.trans xc) qc⟩
end
end Y

/-! Y: part 17: what the printed derivations lean on. -/
namespace Y
open PySem PySem.Spec PyProof.Rows L2

theorem u65 {k : Nat} {A : Around} (r : Room k A) : A.units + 65 < cLine := by have := r.un; omega
theorem u64 {k : Nat} {A : Around} (r : Room k A) : A.units + 64 < cLine := by have := r.un; omega
theorem u1 {k : Nat} {A : Around} (r : Room k A) : A.units + 1 < cLine := by have := r.un; omega
/-- the built-in names are free -/
structure FreeB (mg : Str → Option Value) : Prop where
  len : mg "len" = none
  min : mg "min" = none
  max : mg "max" = none
  sum : mg "sum" = none
  all : mg "all" = none
  any : mg "any" = none
  int : mg "int" = none
  bool : mg "bool" = none
  list : mg "list" = none
  tuple : mg "tuple" = none
  range : mg "range" = none
  enumerate : mg "enumerate" = none
  zip : mg "zip" = none
  sorted : mg "sorted" = none
  set : mg "set" = none
  repr : mg "repr" = none
  isinstance : mg "isinstance" = none
  divmod : mg "divmod" = none
/-- a def that may be called -/
structure CalD (P : Program) (w : World) (K : PySem.W.Frag) (mg : Str → Option Value) (base : Heap) (k : Nat) (x : Str) (ps : List Str) (sp : Sp) : Prop where
  ex : ∃ (f : Addr) (fd : FuncData), FnG P w K mg base k f fd ps sp ∧ mg x = some (.ref f) ∧ PySem.W.keepIn K (.ref f) = true ∧ Binds K fd ps []
/-- .. by keywords -/
structure CalK (P : Program) (w : World) (K : PySem.W.Frag) (mg : Str → Option Value) (base : Heap) (k : Nat) (x : Str) (ps : List Str) (sp : Sp) (ks : List Str) (ix : List Nat) : Prop where
  ex : ∃ (f : Addr) (fd : FuncData), FnG P w K mg base k f fd ps sp ∧ mg x = some (.ref f) ∧ PySem.W.keepIn K (.ref f) = true ∧ KBnd K fd ps ks ix
section
variable {X : Cx} {E : XK} {e a b c : Expr} {es : List Expr} {pos p : Pos} {x : Str} {wa wb wc : WE} {va vb : WV} {k j : Nat} {ps : List Str} {wr : WA}
theorem pw_cd {fs : FS} (C : CalD X.prog X.w X.K X.mg X.base j x ps (spF X.mg fs)) (hgd : X.A.guards = some []) (hr : Room k X.A) (hx : Passes (L2.CX X.prog X.w) X E) (ha : PWA X E (e :: es) wr) (hj : j ≤ k := by decide)
    (hg : Gl X x := by rfl) (hdb : (x == ("__debug__" : Str)) = false := by decide) (he : starEach (e :: es) X.env = (false, eval e X.env) :: starEach es X.env := by rfl) (hpl : (backTo pos (starEach es X.env)).any (·.1) = false := by rfl) :
    PWE X E (.Call (.Name x p) (e :: es) [] pos) (wCall fs wr) := by
  obtain ⟨f, fd, h1, h2, h3, h4⟩ := C.ex
  exact pw_call h1 hgd (hr.mono hj) h2 h3 h4 hx ha hg hdb he hpl
theorem pn_cd {fs : FS} (C : CalD X.prog X.w X.K X.mg X.base j x ps (spF X.mg fs)) (hgd : X.A.guards = some []) (hr : Room k X.A) (hx : Passes (L2.CX X.prog X.w) X E) (ha : PWA X E (e :: es) wr) (hj : j ≤ k := by decide)
    (hg : Gl X x := by rfl) (hdb : (x == ("__debug__" : Str)) = false := by decide) (he : starEach (e :: es) X.env = (false, eval e X.env) :: starEach es X.env := by rfl) (hpl : (backTo pos (starEach es X.env)).any (·.1) = false := by rfl) :
    PWN X E (.Call (.Name x p) (e :: es) [] pos) (wCallN fs wr) := by
  obtain ⟨f, fd, h1, h2, h3, h4⟩ := C.ex
  exact pn_call h1 hgd (hr.mono hj) h2 h3 h4 hx ha hg hdb he hpl
theorem pw_cm {fs : FSM} {y : Str} {py : Pos} (i : Nat) (C : CalD X.prog X.w X.K X.mg X.base j x ps (spM fs)) (hgd : X.A.guards = some []) (hr : Room k X.A) (hx : Passes (L2.CX X.prog X.w) X E) (ha : PWA X E es wr) (hj : j ≤ k := by decide)
    (hN : X.N[i]? = some y := by rfl) (hv : Vis X.env.scope y := by first | exact Or.inl rfl | exact Or.inr (Or.inl rfl) | exact Or.inr (Or.inr rfl)) (hd : (y == ("__debug__" : Str)) = false := by decide) (hcd : (y == ("__classdict__" : Str)) = false := by decide)
    (hg : Gl X x := by rfl) (hdb : (x == ("__debug__" : Str)) = false := by decide) (he : starEach (.Name y py :: es) X.env = (false, eval (.Name y py) X.env) :: starEach es X.env := by rfl) (hpl : (backTo pos (starEach es X.env)).any (·.1) = false := by rfl) :
    PWE X E (.Call (.Name x p) (.Name y py :: es) [] pos) (wCallM i fs wr) := by
  obtain ⟨f, fd, h1, h2, h3, h4⟩ := C.ex
  exact pw_callM i h1 hgd (hr.mono hj) h2 h3 h4 hx ha hN hv hd hcd hg hdb he hpl
theorem pw_ck {fs : FS} {kws : List Keyword} {ks : List Str} {ix : List Nat} (C : CalK X.prog X.w X.K X.mg X.base j x ps (spF X.mg fs) ks ix) (hgd : X.A.guards = some []) (hr : Room k X.A) (hx : Passes (L2.CX X.prog X.w) X E) (ha : PWK X E kws wr) (hj : j ≤ k := by decide)
    (hl : ks.length = ix.length := by rfl) (hg : Gl X x := by rfl) (hall : (backToKw pos (keywordEach kws X.env)).all (·.1.isSome) = true := by rfl) (hks : (backToKw pos (keywordEach kws X.env)).filterMap (·.1) = ks := by rfl)
    (hdb : (x == ("__debug__" : Str)) = false := by decide) (hpl : ((backTo pos (starEach [] X.env)).any (·.1) || (backToKw pos (keywordEach kws X.env)).any (·.1.isNone)) = false := by rfl) :
    PWE X E (.Call (.Name x p) [] kws pos) (wCallK ix fs wr) := by
  obtain ⟨f, fd, h1, h2, h3, h4⟩ := C.ex
  exact pw_callK h1 hgd (hr.mono hj) h2 h3 h4 hx ha hl hg hall hks hdb hpl
/-- -e -/
@[reducible] def wNeg (wa : WE) : WE := fun ex Γ Q => wa ex Γ fun d _ Γ1 => match d with
  | .int i => Q (.int (-i)) true Γ1
  | _ => False
theorem pw_neg (ha : PWE X E a wa) : PWE X E (.UnaryOp .USub a pos) (wNeg wa) := by
  obtain ⟨t, pt, kt⟩ := ha
  refine ⟨_, pe_un un_neg pt, fun R F H σ Γ ex Q Qt g h eq w => kt R F H σ Γ ex _ _ g h (fun v F1 H1 Γ1 d fr h1 x1 r1 w1 => ?_) w⟩
  cases d with
  | int i => exact ⟨i, rp_int r1, eq _ F1 H1 Γ1 _ true h1 x1 (.int _) w1⟩
  | _ => exact w1.elim
end
section
variable {P : Program} {w : World} {K : PySem.W.Frag} {mg : Str → Option Value} {base : Heap} {k j : Nat} {x : Str} {ps : List Str} {sp : Sp}
theorem CalD.up (C : CalD P w K mg base j x ps sp) (h : j ≤ k) : CalD P w K mg base k x ps sp := by
  obtain ⟨f, fd, h1, h2, h3, h4⟩ := C.ex
  exact ⟨f, fd, h1.up h, h2, h3, h4⟩
end
end Y

/-! Y: part 18: a block whose new lists are lengthened at its end, and forgotten. -/
namespace Y
open PySem PySem.Spec PyProof.Rows L2

mutual
theorem Rp.det {F : Hp} : ∀ {v : V} {d d' : D}, Rp F v d → plain d = true → Rp F v d' → plain d' = true → d = d'
  | _, _, _, .non, _, h, p => by cases h <;> first | rfl | (unfold plain at p; cases p)
  | _, _, _, .bl b, _, h, p => by cases h <;> first | rfl | (unfold plain at p; cases p)
  | _, _, _, .int b, _, h, p => by cases h <;> first | rfl | (unfold plain at p; cases p)
  | _, _, _, .str b, _, h, p => by cases h <;> first | rfl | (unfold plain at p; cases p)
  | _, _, _, .opq b, p, _, _ => by unfold plain at p; cases p
  | _, _, _, .lst e r, p, h, p' => by
    cases h with
    | lst e2 r2 =>
      rw [e] at e2
      cases e2
      unfold plain at p p'
      rw [RpAll.det r p r2 p']
    | tup e2 r2 => rw [e] at e2; cases e2
    | dk e2 r2 => rw [e] at e2; cases e2
    | dt e2 r2 => rw [e] at e2; cases e2
    | opq => unfold plain at p'; cases p'
  | _, _, _, .tup e r, p, h, p' => by
    cases h with
    | tup e2 r2 =>
      rw [e] at e2
      cases e2
      unfold plain at p p'
      rw [RpAll.det r p r2 p']
    | lst e2 r2 => rw [e] at e2; cases e2
    | dk e2 r2 => rw [e] at e2; cases e2
    | dt e2 r2 => rw [e] at e2; cases e2
    | opq => unfold plain at p'; cases p'
  | _, _, _, .dk _ _, p, _, _ => by unfold plain at p; cases p
  | _, _, _, .dt _ _, p, _, _ => by unfold plain at p; cases p
theorem RpAll.det {F : Hp} : ∀ {v : List V} {d d' : List D}, RpAll F v d → plainAll d = true → RpAll F v d' → plainAll d' = true → d = d'
  | _, _, _, .nil, _, h, _ => by cases h; rfl
  | _, _, _, .cons a r, p, h, p' => by
    cases h with
    | cons a2 r2 =>
      unfold plainAll at p p'
      obtain ⟨h1, h2⟩ := Bool.and_eq_true_iff.mp p
      obtain ⟨h3, h4⟩ := Bool.and_eq_true_iff.mp p'
      rw [Rp.det a h1 a2 h3, RpAll.det r h2 r2 h4]
end

/-! ### a block in a frame of its own -/
abbrev WB := DE → En → Prop
def SSB (X : Cx) (E : XK) (ts : TS) (w : WB) : Prop := ∀ (R : Rl) (F H0 : Hp) (σ0 : L2.St) (Γ0 : En) (F' H : Hp) (σ : L2.St) (Γ : En) (P : DE) (T : Ends), Go X R E P.xe → Hd R F H0 σ0 Γ0 → Hd (R.from F H0 R.io) F' H σ Γ → Sim R F P T → w P Γ → ts T σ H
def PWB (X : Cx) (E : XK) (s : List Stmt) (w : WB) : Prop := ∃ ts : TS, PSs X s ts ∧ SSB X E ts w
@[reducible] def wBlk (w : WB) : WS := fun P Γ => w P (dim true Γ)
section
variable {X : Cx} {E : XK} {s : Stmt} {rest : List Stmt} {wt : WS} {wu : WB}
theorem pws_blk {l : List Stmt} {w : WB} (h : PWB X E l w) : PWSs X E l (wBlk w) := by
  obtain ⟨t, pt, kt⟩ := h
  exact ⟨t, pt, fun R F H σ Γ P T g h s w => kt R F H σ Γ F H σ (dim true Γ) P T g h h.rebase s w⟩
abbrev endB (P : DE) (n : En → Prop) : DE := { nx := n, rt := fun d fr Γ2 => P.rt d fr (und true Γ2), bk := fun Γ2 => P.bk (und true Γ2), ct := fun Γ2 => P.ct (und true Γ2), xe := P.xe }
@[reducible] def wBSeq (t : WS) (u : WB) : WB := fun P Γ => t (endB P (u P)) Γ
theorem ioTrue {R : Rl} : IoBack R R.io true := rfl
theorem pwb_cons (h1 : PWS X E s wt) (h2 : PWB X E rest wu) : PWB X E (s :: rest) (wBSeq wt wu) := by
  obtain ⟨t, pt, kt⟩ := h1
  obtain ⟨u, pu, ku⟩ := h2
  refine ⟨_, pss_cons pt pu, fun R F H0 σ0 Γ0 F' H σ Γ P T g h h' s w => ?_⟩
  have x : Ex F F' := h'.f0
  refine kt (R.from F H0 R.io) F' H σ Γ (endB P (wu P)) { T with nx := u T } (g.rebase h ioTrue) h' ?_ w
  exact ⟨fun F2 H2 σ2 Γ2 hh xx q => ku R F H0 σ0 Γ0 F2 H2 σ2 Γ2 P T g h hh s q, fun v F2 H2 σ2 Γ2 d fr hh xx rv q => s.rt v F2 H2 σ2 (und true Γ2) d fr (h.unbase hh ioTrue) (x.trans xx) (Rp.mono (fF_back h) rv) q,
    fun F2 H2 σ2 Γ2 hh xx q => s.bk F2 H2 σ2 (und true Γ2) (h.unbase hh ioTrue) (x.trans xx) q, fun F2 H2 σ2 Γ2 hh xx q => s.ct F2 H2 σ2 (und true Γ2) (h.unbase hh ioTrue) (x.trans xx) q⟩
end

/-! ### lengthened lists -/
def JSl (R : Rl) (F G H : Hp) (v : V) : Sl → Prop
  | .dat d fr => (flt d = true → Rp H00 v d) ∧ (fr = true → Rp G v d)
  | .old d => Rp F v d
  | .raw u => v = u
  | .ino o => ∃ p, v = .ref p ∧ R.io = some p ∧ ∀ os, o = .lst os → os.all flt = true → ∃ us, H p = some (.lst us) ∧ RpAll H00 us os
  | _ => True
def isIno : Sl → Bool
  | .ino _ => true
  | _ => false
/-- some of the block's new lists are longer than they were: by n items at most; those whose contents were not md are as they were -/
structure JS (R : Rl) (F H0 G H : Hp) (σ : L2.St) (Γ : En) (n : Nat) (md : List (List D)) : Prop where
  base : ∀ a o, H0 a = some o → R.io ≠ some a → H a = some o
  iof : ∀ a, R.io = some a → H a ≠ none
  len : Γ.length = σ.length
  sl : ∀ i s, gt Γ i = some s → ∃ v, σ[i]? = some (some v) ∧ JSl R F G H v s
  sep : ∀ i j s t p, gt Γ i = some s → gt Γ j = some t → isIno s = true → isIno t = true → σ[i]? = some (some (.ref p)) → σ[j]? = some (some (.ref p)) → i = j
  new : ∀ q o, G q = some o → H0 q = none
  grow : ∀ q es, Rp G (.ref q) (.lst es) → plainAll es = true → ∃ vs t, G q = some (.lst vs) ∧ RpAll G vs es ∧ H q = some (.lst (vs ++ t)) ∧ t.length ≤ n ∧ (es ∉ md → t = [])
section
variable {R : Rl} {F H0 G H F' : Hp} {σ : L2.St} {Γ : En} {n : Nat} {md : List (List D)}
theorem JS.start {σ0 : L2.St} {Γ0 : En} (h : Hd R F H0 σ0 Γ0) (h' : Hd (R.from F H0 R.io) F' H σ Γ) : JS R F H0 (nw H0 F') H σ Γ 0 [] where
  base := fun a o e n => h'.base a o e n
  iof := fun a e => (h'.iof a e).2.2
  len := h'.len
  sl := fun i s e => by
    obtain ⟨v, e1, ok⟩ := h'.sl i s e
    refine ⟨v, e1, ?_⟩
    cases s with
    | dat d fr => exact ⟨fun hf => flt_rp hf ok, fun hf => by subst hf; exact ok⟩
    | old d => exact ok.1
    | raw u => exact ok
    | ino o =>
      obtain ⟨p, e1, e2, t⟩ := ok
      refine ⟨p, e1, e2, fun os eo hf => ?_⟩
      subst eo
      obtain ⟨us, eu, ru⟩ := t
      exact ⟨us, eu, flt_all hf ru⟩
    | own _ _ => exact True.intro
    | scr _ => exact True.intro
  sep := fun i j s t p e1 e2 o1 o2 p1 p2 => by
    refine h'.sep i j s t p e1 e2 ?_ ?_ p1 p2
    · cases s <;> first | rfl | cases o1
    · cases t <;> first | rfl | cases o2
  new := fun q o e => by
    unfold nw at e
    cases z : H0 q with
    | none => rfl
    | some u => rw [z] at e; cases e
  grow := fun q es r p => by
    cases r with
    | lst z ra => exact ⟨_, [], z, ra, by rw [List.append_nil]; exact RdD.lst (h'.sub _ _ (nw_ex _ _ z)), Nat.le_refl _, fun _ => rfl⟩
theorem JS.io (j : JS R F H0 G H σ Γ n md) {σ0 : L2.St} {Γ0 : En} (h : Hd R F H0 σ0 Γ0) {q : Addr} {o : HO} (e : G q = some o) : R.io ≠ some q := fun z => (h.iof q z).2.2 (j.new q o e)
/-- one list is lengthened -/
theorem JS.push (j : JS R F H0 G H σ Γ n md) {σ0 : L2.St} {Γ0 : En} (h : Hd R F H0 σ0 Γ0) {p : Addr} {fs : List D} (r : Rp G (.ref p) (.lst fs)) (pl : plainAll fs = true) {ws : List V} (hp : H p = some (.lst ws)) (v : V) : JS R F H0 G (upd H p (.lst (ws ++ [v]))) σ Γ (n + 1) (fs :: md) := by
  obtain ⟨vs, t, e1, e2, e3, e4, e5⟩ := j.grow p fs r pl
  have nio : R.io ≠ some p := j.io h e1
  exact {
    base := fun a o e na => by
      rw [upd_ne (fun z => by rw [z, j.new p _ e1] at e; cases e)]
      exact j.base a o e na
    iof := fun a e => by
      rw [upd_ne (fun z => nio (by rw [← z]; exact e))]
      exact j.iof a e
    len := j.len
    sl := fun i s e => by
      obtain ⟨u, z1, ok⟩ := j.sl i s e
      refine ⟨u, z1, ?_⟩
      cases s with
      | ino o =>
        obtain ⟨q, y1, y2, y3⟩ := ok
        refine ⟨q, y1, y2, fun os eo hf => ?_⟩
        obtain ⟨us, eu, ru⟩ := y3 os eo hf
        exact ⟨us, by rw [upd_ne (fun z => nio (by rw [← z]; exact y2))]; exact eu, ru⟩
      | dat d fr => exact ok
      | old d => exact ok
      | raw u => exact ok
      | own _ _ => exact ok
      | scr _ => exact ok
    sep := j.sep
    new := j.new
    grow := fun q es rq pq => by
      obtain ⟨vs2, t2, y1, y2, y3, y4, y5⟩ := j.grow q es rq pq
      by_cases hq : q = p
      · subst hq
        have ed : D.lst es = D.lst fs := Rp.det rq (by unfold plain; exact pq) r (by unfold plain; exact pl)
        cases ed
        rw [hp] at y3
        cases y3
        refine ⟨vs2, t2 ++ [v], y1, y2, by rw [upd_same, List.append_assoc], by rw [List.length_append, List.length_singleton]; omega, fun z => absurd List.mem_cons_self z⟩
      · exact ⟨vs2, t2, y1, y2, by rw [upd_ne hq]; exact y3, by omega, fun z => y5 fun z2 => z (List.mem_cons_of_mem _ z2)⟩ }
theorem JS.forget (j : JS R F H0 G H σ Γ n md) (i : Nat) {σ' : L2.St} (hl : σ'.length = σ.length) (ho : ∀ k, k ≠ i → σ'[k]? = σ[k]?) : JS R F H0 G H σ' (st Γ i none) n md where
  base := j.base
  iof := j.iof
  len := by rw [st_length, hl]; exact j.len
  sl := fun k s e => by
    by_cases hk : k = i
    · subst hk
      have hl := gt_lt e
      rw [st_length] at hl
      rw [gt_st_same hl] at e
      cases e
    · rw [gt_st_ne hk] at e
      obtain ⟨u, e1, ok⟩ := j.sl k s e
      exact ⟨u, by rw [ho k hk]; exact e1, ok⟩
  sep := fun a b s t p e1 e2 o1 o2 p1 p2 => by
    have key : ∀ {a : Nat} {s : Sl}, gt (st Γ i none) a = some s → a ≠ i := fun {a s} e z => by
      subst z
      have hl := gt_lt e
      rw [st_length] at hl
      rw [gt_st_same hl] at e
      cases e
    have na := key e1
    have nb := key e2
    rw [gt_st_ne na] at e1
    rw [gt_st_ne nb] at e2
    rw [ho a na] at p1
    rw [ho b nb] at p2
    exact j.sep a b s t p e1 e2 o1 o2 p1 p2
  new := j.new
  grow := j.grow
theorem JS.more (j : JS R F H0 G H σ Γ n md) {m : Nat} {me : List (List D)} (hn : n ≤ m) (hm : ∀ x ∈ md, x ∈ me) : JS R F H0 G H σ Γ m me :=
  ⟨j.base, j.iof, j.len, j.sl, j.sep, j.new, fun q es r p => by
    obtain ⟨vs, t, e1, e2, e3, e4, e5⟩ := j.grow q es r p
    exact ⟨vs, t, e1, e2, e3, by omega, fun z => e5 fun z2 => z (hm _ z2)⟩⟩
/-- what is left behind the block -/
@[reducible] def outS : Option Sl → Option Sl
  | some (.dat d _) => if flt d = true then some (.dat d true) else none
  | some (.old d) => some (.dat d false)
  | some (.raw v) => some (.raw v)
  | some (.ino (.lst os)) => if os.all flt = true then some (.ino (.lst os)) else none
  | _ => none
@[reducible] def out (Γ : En) : En := mpS outS Γ
theorem gt_out {Γ : En} {i : Nat} : gt (out Γ) i = outS (gt Γ i) := gt_map rfl
theorem JS.out (j : JS R F H0 G H σ Γ n md) {σ0 : L2.St} {Γ0 : En} (h : Hd R F H0 σ0 Γ0) : Hd R F H σ (out Γ) where
  sub := fun a u e => by
    have nio : R.io ≠ some a := fun z => by rw [(h.iof a z).1] at e; cases e
    rcases h.sub a u e with q | ⟨q, o, q2⟩
    · exact .inl (j.base a _ q nio)
    · exact .inr ⟨q, o, j.base a _ q2 nio⟩
  base := fun a o e na => j.base a o (h.base a o e na) na
  f0 := h.f0
  new := h.new
  iof := fun a e => ⟨(h.iof a e).1, (h.iof a e).2.1, j.iof a e⟩
  len := by unfold Y.out; rw [mpS_length]; exact j.len
  sl := fun i s e => by
    rw [gt_out] at e
    cases q : gt Γ i with
    | none => rw [q] at e; cases e
    | some t =>
      rw [q] at e
      obtain ⟨v, e1, ok⟩ := j.sl i t q
      refine ⟨v, e1, ?_⟩
      cases t with
      | dat d fr =>
        have e' : (if flt d = true then some (Sl.dat d true) else none) = some s := e
        by_cases hf : flt d = true
        · rw [if_pos hf] at e'
          cases e'
          exact flt_rp hf (ok.1 hf)
        · rw [if_neg hf] at e'
          cases e'
      | old d => cases e; exact ok
      | raw u => cases e; exact ok
      | ino o =>
        cases o with
        | lst os =>
          have e' : (if os.all flt = true then some (Sl.ino (.lst os)) else none) = some s := e
          by_cases hf : os.all flt = true
          · rw [if_pos hf] at e'
            cases e'
            obtain ⟨p, y1, y2, y3⟩ := ok
            obtain ⟨us, eu, ru⟩ := y3 os rfl hf
            exact ⟨p, y1, y2, us, eu, ru.mono fun _ _ z => by cases z⟩
          · rw [if_neg hf] at e'
            cases e'
        | _ => cases e
      | own _ _ => cases e
      | scr _ => cases e
  sep := fun a b s t p e1 e2 o1 o2 p1 p2 => by
    have key : ∀ {a : Nat} {s : Sl}, gt (Y.out Γ) a = some s → owny s = true → ∃ t, gt Γ a = some t ∧ isIno t = true := fun {a s} e o => by
      rw [gt_out] at e
      cases q : gt Γ a with
      | none => rw [q] at e; cases e
      | some t =>
        rw [q] at e
        cases t with
        | ino o => exact ⟨_, rfl, rfl⟩
        | dat d fr =>
          have e' : (if flt d = true then some (Sl.dat d true) else none) = some s := e
          by_cases hf : flt d = true
          · rw [if_pos hf] at e'
            cases e'
            cases o
          · rw [if_neg hf] at e'
            cases e'
        | old d => cases e; cases o
        | raw u => cases e; cases o
        | own _ _ => cases e
        | scr _ => cases e
    obtain ⟨t1, a1, b1⟩ := key e1 o1
    obtain ⟨t2, a2, b2⟩ := key e2 o2
    exact j.sep a b t1 t2 p a1 a2 b1 b2 p1 p2
end
abbrev WJ := Nat → List (List D) → DE → En → Prop
def SJ (X : Cx) (E : XK) (ts : TS) (w : WJ) : Prop := ∀ (R : Rl) (F H0 : Hp) (σ0 : L2.St) (Γ0 : En) (G H : Hp) (σ : L2.St) (Γ : En) (n : Nat) (md : List (List D)) (P : DE) (T : Ends), Go X R E P.xe → Hd R F H0 σ0 Γ0 → JS R F H0 G H σ Γ n md → Sim R F P T → w n md P Γ → ts T σ H
def PWJ (X : Cx) (E : XK) (s : List Stmt) (w : WJ) : Prop := ∃ ts : TS, PSs X s ts ∧ SJ X E ts w
section
variable {X : Cx} {E : XK} {s : Stmt} {rest : List Stmt} {pos p p1 p2 pc apos pe : Pos} {x y : Str} {wj : WJ}
@[reducible] def wSp (w : WJ) : WB := fun P Γ => w 0 [] P Γ
theorem pwb_sp {l : List Stmt} {w : WJ} (h : PWJ X E l w) : PWB X E l (wSp w) := by
  obtain ⟨t, pt, kt⟩ := h
  exact ⟨t, pt, fun R F H0 σ0 Γ0 F' H σ Γ P T g h h' s w => kt R F H0 σ0 Γ0 (nw H0 F') H σ Γ 0 [] P T g h (.start h h') s w⟩
@[reducible] def wJEnd (w : WS) : WJ := fun _ _ P Γ => w P (out Γ)
theorem pwj_end {l : List Stmt} {w : WS} (h : PWSs X E l w) : PWJ X E l (wJEnd w) := by
  obtain ⟨t, pt, kt⟩ := h
  exact ⟨t, pt, fun R F H0 σ0 Γ0 G H σ Γ n md P T g h j s w => kt R F H σ (out Γ) P T g (j.out h) s w⟩
theorem atI_nat {α : Type} {xs : List α} {k : Nat} {v : α} (h : xs[k]? = some v) : atI xs (k : Int) = some v := by
  obtain ⟨hl, _⟩ := List.getElem?_eq_some_iff.mp h
  unfold atI ixN
  rw [if_pos (by omega), if_pos (by omega)]
  simpa using h
/-- x[k].append(None) -/
@[reducible] def wSp1 (i k : Nat) (rest : WJ) : WJ := fun n md P Γ => ∃ ds es, gt Γ i = some (.dat (.lst ds) true) ∧ plainAll ds = true ∧ ds[k]? = some (.lst es) ∧ es.length + n < sizeLine ∧ rest (n + 1) (es :: md) P Γ
theorem plainAll_get {ds : List D} {k : Nat} {es : List D} (h : plainAll ds = true) (e : ds[k]? = some (.lst es)) : plainAll es = true := by
  have z := plainAll_mem h _ (List.mem_of_getElem? e)
  unfold plain at z
  exact z
theorem pwj_sp1 (i k : Nat) (hr : PWJ X E rest wj) (hN : X.N[i]? = some x := by rfl) (hv : Vis X.env.scope x := by first | exact Or.inl rfl | exact Or.inr (Or.inl rfl) | exact Or.inr (Or.inr rfl)) (hd : (x == ("__debug__" : Str)) = false := by decide) (hcd : (x == ("__classdict__" : Str)) = false := by decide)
    {kk kn : Nat} (hbase : attributeBase (.Subscript (.Name x p) (.Constant (.int k) kk pc) p1) "append" X.env (eval (.Subscript (.Name x p) (.Constant (.int k) kk pc) p1) X.env) = eval (.Subscript (.Name x p) (.Constant (.int k) kk pc) p1) X.env := by rfl)
    (hfew : ((backTo pos (starEach (.Constant .none kn pe :: []) X.env)).all (fun x => !x.1) && (backToKw pos (keywordEach [] X.env)).all (fun x => x.1.isSome) && decide ((Expr.Constant .none kn pe :: []).length + ([] : List Keyword).length + (if ([] : List Keyword).isEmpty then 0 else 1) < 30)) = true := by rfl)
    (hline : (apos.endLine == pos.line) = true := by rfl) (hs : starEach (.Constant .none kn pe :: []) X.env = (false, eval (.Constant .none kn pe) X.env) :: starEach [] X.env := by rfl) (hplain : (backTo pos (starEach [] X.env)).any (·.1) = false := by rfl)
    (hsw : swapsWith (.Call (.Attribute (.Subscript (.Name x p) (.Constant (.int k) kk pc) p1) "append" apos) [.Constant .none kn pe] [] pos) none p2.line X.env = pure false := by rfl) :
    PWJ X E (.Expr (.Call (.Attribute (.Subscript (.Name x p) (.Constant (.int k) kk pc) p1) "append" apos) [.Constant .none kn pe] [] pos) p2 :: rest) (wSp1 i k wj) := by
  obtain ⟨t, pt, kt⟩ := hr
  refine ⟨_, pss_cons (ps_expr (pe_bm PySem.F.plainAttrs_list PySem.F.slot_list_append PySem.F.type_list_append mt_append (pe_ix ix_list (pe_var hN hv hd hcd) pe_int (by intro _ _; rfl)) (pa_cons pe_non pa_nil hs) hbase hfew hline hs hplain) hsw) pt, fun R F H0 σ0 Γ0 G H σ Γ n md P T g h j s w => ?_⟩
  obtain ⟨ds, es, e1, pl, ek, hsz, w⟩ := w
  obtain ⟨v, z1, _, z3⟩ := j.sl i _ e1
  have rv := z3 rfl
  cases rv with
  | @lst q vs _ eg ra =>
    obtain ⟨vs', t', y1, y2, y3, y4, _⟩ := j.grow q ds (.lst eg ra) pl
    rw [eg] at y1
    cases y1
    obtain ⟨u, eu, ru⟩ := y2.get ek
    have ple := plainAll_get pl ek
    cases ru with
    | @lst q2 vs2 _ eg2 ra2 =>
      obtain ⟨vs3, t3, x1, x2, x3, x4, _⟩ := j.grow q2 es (.lst eg2 ra2) ple
      have l3 := x2.length
      have eu' : (vs ++ t')[k]? = some (.ref q2) := by
        obtain ⟨hl, _⟩ := List.getElem?_eq_some_iff.mp eu
        rw [List.getElem?_append_left hl]
        exact eu
      refine ⟨.ref q, z1, q, vs ++ t', (k : Int), .ref q2, rfl, rfl, sql_of y3, atI_nat eu', ?_⟩
      refine ⟨.inl ⟨rfl, _, sql_of x3⟩, q2, vs3 ++ t3, .non, rfl, rfl, x3, by rw [List.length_append]; omega, ?_⟩
      exact kt R F H0 σ0 Γ0 G _ σ Γ (n + 1) (es :: md) P T g h (j.push h (.lst eg2 ra2) ple x3 .non) s w
/-- a list is none of its own items -/
theorem not_item : ∀ (fs : List D) (ds : List D), D.lst fs ∈ ds → fs ≠ ds := fun fs ds h e => by
  subst e
  have := List.sizeOf_lt_of_mem h
  simp at this
  omega
theorem st_st : ∀ (Γ : En) (i : Nat) (s t : Option Sl), st (st Γ i s) i t = st Γ i t
  | [], _, _, _ => rfl
  | _ :: _, 0, _, _ => rfl
  | a :: r, i + 1, s, t => congrArg (a :: ·) (st_st r i s t)
/-- for y in x[k]: y.append(None) -/
@[reducible] def wSp2 (i k jy : Nat) (rest : WJ) : WJ := fun n md P Γ => ∃ (ds : List D) (fss : List (List D)), gt Γ i = some (.dat (.lst ds) true) ∧ jy < Γ.length ∧ plainAll ds = true ∧ ds[k]? = some (.lst (fss.map .lst)) ∧ fss.map D.lst ∉ md ∧ (∀ fs ∈ fss, fs.length + n + fss.length < sizeLine) ∧ rest (n + fss.length) (fss ++ md) P (st Γ jy none)
theorem pwj_sp2 (i k jy : Nat) {py pa p3 : Pos} {kk kn : Nat} (hp : PassesOwn (model X.prog X.w) X.A X.env X.xe) (hc : X.calm = true) (hNd : X.N.Nodup) (hr : PWJ X E rest wj) (hN : X.N[i]? = some x := by rfl) (hv : Vis X.env.scope x := by first | exact Or.inl rfl | exact Or.inr (Or.inl rfl) | exact Or.inr (Or.inr rfl)) (hd : (x == ("__debug__" : Str)) = false := by decide) (hcd : (x == ("__classdict__" : Str)) = false := by decide)
    (hNy : X.N[jy]? = some y := by rfl) (hy : Loc X.env.scope y := by first | exact Or.inl rfl | exact Or.inr rfl) (hf : X.fn y = true ∨ X.env.scope.names.lookup y = some .local := by first | exact .inl rfl | exact .inr rfl | assumption) (hvy : Vis X.env.scope y := by first | exact Or.inl rfl | exact Or.inr (Or.inl rfl) | exact Or.inr (Or.inr rfl)) (hdy : (y == ("__debug__" : Str)) = false := by decide) (hcdy : (y == ("__classdict__" : Str)) = false := by decide)
    (hbase : attributeBase (.Name y pa) "append" X.env (eval (.Name y pa) X.env) = eval (.Name y pa) X.env := by rfl)
    (hfew : ((backTo pos (starEach (.Constant .none kn pe :: []) X.env)).all (fun x => !x.1) && (backToKw pos (keywordEach [] X.env)).all (fun x => x.1.isSome) && decide ((Expr.Constant .none kn pe :: []).length + ([] : List Keyword).length + (if ([] : List Keyword).isEmpty then 0 else 1) < 30)) = true := by rfl)
    (hline : (apos.endLine == pos.line) = true := by rfl) (hs : starEach (.Constant .none kn pe :: []) X.env = (false, eval (.Constant .none kn pe) X.env) :: starEach [] X.env := by rfl) (hplain : (backTo pos (starEach [] X.env)).any (·.1) = false := by rfl)
    (hsw : swapsWith (.Call (.Attribute (.Name y pa) "append" apos) [.Constant .none kn pe] [] pos) none p2.line X.env = pure false := by rfl)
    (hfs : ∀ v, foldedSetIterable (.Subscript (.Name x p) (.Constant (.int k) kk pc) p1) X.env v = pure v := by intro _; rfl) :
    PWJ X E (.For (.Name y py) (.Subscript (.Name x p) (.Constant (.int k) kk pc) p1) [.Expr (.Call (.Attribute (.Name y pa) "append" apos) [.Constant .none kn pe] [] pos) p2] [] p3 :: rest) (wSp2 i k jy wj) := by
  obtain ⟨t, pt, kt⟩ := hr
  refine ⟨_, pss_cons (ps_for hp hc (pi_list (pe_ix ix_list (pe_var hN hv hd hcd) pe_int (by intro _ _; rfl))) (pg_name hNd hNy hy hf) (pss_one (ps_expr (pe_bm PySem.F.plainAttrs_list PySem.F.slot_list_append PySem.F.type_list_append mt_append (pe_var hNy hvy hdy hcdy) (pa_cons pe_non pa_nil hs) hbase hfew hline hs hplain) hsw)) hfs) pt, fun R F H0 σ0 Γ0 G H σ Γ n md P T g h j s w => ?_⟩
  obtain ⟨ds, fss, e1, hj, pl, ek, nmd, hsz, w⟩ := w
  obtain ⟨v, z1, _, z3⟩ := j.sl i _ e1
  have hjσ : jy < σ.length := by rw [← j.len]; exact hj
  have rv := z3 rfl
  cases rv with
  | @lst q vs _ eg ra =>
    obtain ⟨vs', t', y1, y2, y3, y4, _⟩ := j.grow q ds (.lst eg ra) pl
    rw [eg] at y1
    cases y1
    obtain ⟨u, eu, ru⟩ := y2.get ek
    have ple := plainAll_get pl ek
    cases ru with
    | @lst q2 vs2 _ eg2 ra2 =>
      have rq : Rp G (.ref q2) (.lst (fss.map .lst)) := .lst eg2 ra2
      have l2 := ra2.length
      rw [List.length_map] at l2
      have eu' : (vs ++ t')[k]? = some (.ref q2) := by
        obtain ⟨hl, _⟩ := List.getElem?_eq_some_iff.mp eu
        rw [List.getElem?_append_left hl]
        exact eu
      -- the walked list stands while none of its contents is changed
      have stands : ∀ {H' σ' Γ' n' md'}, JS R F H0 G H' σ' Γ' n' md' → fss.map D.lst ∉ md' → H' q2 = some (.lst vs2) := fun {H' σ' Γ' n' md'} j' nm => by
        obtain ⟨vs4, t4, x1, x2, x3, x4, x5⟩ := j'.grow q2 _ rq ple
        rw [eg2] at x1
        cases x1
        rw [x5 nm, List.append_nil] at x3
        exact x3
      have nmc : ∀ c, fss.map D.lst ∉ fss.take c ++ md := fun c z => by
        rcases List.mem_append.mp z with z | z
        · exact not_item _ _ (List.mem_map_of_mem (List.mem_of_mem_take z)) rfl
        · exact nmd z
      show tFor _ _ _ _ σ H
      refine ⟨.ref q, z1, q, vs ++ t', (k : Int), .ref q2, rfl, rfl, sql_of y3, atI_nat eu', q2, rfl, ⟨_, sql_of (stands j nmd)⟩, ?_⟩
      refine ⟨fun c m σ' H' => m = fss.length - c ∧ c ≤ fss.length ∧ σ'.length = σ.length ∧ JS R F H0 G H' σ' (st Γ jy none) (n + c) (fss.take c ++ md), ⟨fss.length, rfl, Nat.zero_le _, rfl, (j.forget jy rfl fun _ _ => rfl).more (by omega) fun x hx => List.mem_append_right _ hx⟩, ?_⟩
      rintro c m σ' H' ⟨em, hcl, lσ, jc⟩
      have hq2 := stands jc (nmc c)
      by_cases hlt : c < fss.length
      · have hgc : (fss.map D.lst)[c]? = some (.lst fss[c]) := by rw [List.getElem?_map, List.getElem?_eq_getElem hlt]; rfl
        obtain ⟨vp, ep, rp⟩ := ra2.get hgc
        refine .inr ⟨⟨vs2, vp, sql_of hq2, ep⟩, fun σ' H' => σ'.length = σ.length ∧ JS R F H0 G H' σ' (st Γ jy none) (n + (c + 1)) (fss.take (c + 1) ++ md), fun σ' H' z => ⟨fss.length - (c + 1), by omega, rfl, hlt, z⟩, fun xv H2 hy2 => ?_⟩
        obtain ⟨eH, hx⟩ := hy2
        subst eH
        have ex := hx _ (sql_of hq2)
        rw [ep] at ex
        cases ex
        have plc : plainAll fss[c] = true := plainAll_get ple hgc
        have hmem : fss[c] ∈ fss := List.getElem_mem hlt
        have jc2 := jc.forget jy (σ' := σ'.set jy (some vp)) (by rw [List.length_set]) fun k hk => List.getElem?_set_ne (Ne.symm hk)
        rw [st_st] at jc2
        cases rp with
        | @lst pc vpc _ ec rc =>
          obtain ⟨vs5, t5, x1, x2, x3, x4, _⟩ := jc2.grow pc _ (.lst ec rc) plc
          have l5 := x2.length
          have hz := hsz _ hmem
          refine ⟨.ref pc, List.getElem?_set_self (by rw [lσ]; exact hjσ), .inl ⟨rfl, _, sql_of x3⟩, pc, vs5 ++ t5, .non, rfl, rfl, x3, by rw [List.length_append]; omega, ?_⟩
          refine ⟨by rw [List.length_set]; exact lσ, (jc2.push h (.lst ec rc) plc x3 .non).more (m := n + (c + 1)) (by omega) fun x hx => ?_⟩
          rw [List.take_succ_eq_append_getElem hlt, List.append_assoc]
          rcases List.mem_cons.mp hx with z | z
          · rw [z]; exact List.mem_append_right _ List.mem_cons_self
          · rcases List.mem_append.mp z with z | z
            · exact List.mem_append_left _ z
            · exact List.mem_append_right _ (List.mem_cons_of_mem _ z)
      · have ec : c = fss.length := by omega
        subst ec
        rw [List.take_length] at jc
        exact .inl ⟨⟨vs2, sql_of hq2, by omega⟩, kt R F H0 σ0 Γ0 G H' σ' _ _ _ P T g h jc s w⟩
end
end Y

/-! Q: the pure side, part 1: data of nets, what wps come to. -/
namespace Q
open PySem L2 Y

/-- an arrow, arrows, numbers as data -/
abbrev prD (p : Int × Int) : D := .lst [.int p.1, .int p.2]
abbrev arD (l : List (Int × Int)) : D := .lst (l.map prD)
abbrev inD (l : List Int) : D := .lst (l.map .int)

/-! ### a comprehension's turns that leave the slots as they were -/
def LcIt (tg : WG) (tt : WT) (te : WE) (vs : List Nat) (Γ : En) (x : D × Bool) (r : Option (D × Bool)) : Prop :=
  ∀ (KT : D → Bool → En → Prop) (KF : En → Prop), (∀ Γ', rs Γ Γ' vs = Γ → match r with
    | some (d, fr) => KT d fr Γ'
    | none => KF Γ') → tg x.1 x.2 (wp Γ vs) fun Γ1 => tt ex0 Γ1 fun b Γ2 => ifB b (te ex0 Γ2 KT) (KF Γ2)
theorem lc_all {tg : WG} {tt : WT} {te : WE} {vs : List Nat} {dp : Dep} {Γ : En} (g : D × Bool → Option (D × Bool)) (hd : depE Γ dp) : ∀ (items : List (D × Bool)) (acc : List D) (f : Bool) (K : List D → Bool → En → Prop),
    (∀ x ∈ items, LcIt tg tt te vs Γ x (g x)) → K (acc ++ (items.filterMap g).map (·.1)) (f && (items.filterMap g).all (·.2)) Γ → lcGo tg tt te vs dp items acc f Γ K
  | [], acc, f, K, _, k => by
    refine ⟨hd, ?_⟩
    simpa using k
  | x :: xs, acc, f, K, h, k => by
    refine ⟨hd, ?_⟩
    have hx := h x List.mem_cons_self (fun d fr Γ3 => lcGo tg tt te vs dp xs (acc ++ [d]) (f && fr) (rs Γ Γ3 vs) K) (fun Γ2 => lcGo tg tt te vs dp xs acc f (rs Γ Γ2 vs) K)
    refine hx fun Γ' e => ?_
    have hr := fun y hy => h y (List.mem_cons_of_mem _ hy)
    cases q : g x with
    | none =>
      rw [List.filterMap_cons_none q] at k
      show lcGo tg tt te vs dp xs acc f (rs Γ Γ' vs) K
      rw [e]
      exact lc_all g hd xs acc f K hr k
    | some z =>
      obtain ⟨d, fr⟩ := z
      rw [List.filterMap_cons_some q] at k
      show lcGo tg tt te vs dp xs (acc ++ [d]) (f && fr) (rs Γ Γ' vs) K
      rw [e]
      refine lc_all g hd xs _ _ K hr ?_
      rw [List.append_assoc]
      simpa [Bool.and_assoc] using k
/-- the usual case: every item told by its source -/
theorem lc_map {α : Type} {tg : WG} {tt : WT} {te : WE} {vs : List Nat} {dp : Dep} {Γ : En} {K : List D → Bool → En → Prop} (l : List α) (src : α → D × Bool) (g : α → Option (D × Bool)) (hd : depE Γ dp)
    (h : ∀ a ∈ l, LcIt tg tt te vs Γ (src a) (g a)) (k : K ((l.filterMap g).map (·.1)) ((l.filterMap g).all (·.2)) Γ) : lcGo tg tt te vs dp (l.map src) [] true Γ K := by
  have main : ∀ (l : List α) (acc : List D) (f : Bool), (∀ a ∈ l, LcIt tg tt te vs Γ (src a) (g a)) → K (acc ++ (l.filterMap g).map (·.1)) (f && (l.filterMap g).all (·.2)) Γ → lcGo tg tt te vs dp (l.map src) acc f Γ K := by
    intro l
    induction l with
    | nil =>
      intro acc f _ k
      refine ⟨hd, ?_⟩
      simpa using k
    | cons a l ih =>
      intro acc f h k
      refine ⟨hd, ?_⟩
      have hx := h a List.mem_cons_self (fun d fr Γ3 => lcGo tg tt te vs dp (l.map src) (acc ++ [d]) (f && fr) (rs Γ Γ3 vs) K) (fun Γ2 => lcGo tg tt te vs dp (l.map src) acc f (rs Γ Γ2 vs) K)
      refine hx fun Γ' e => ?_
      have hr := fun y hy => h y (List.mem_cons_of_mem _ hy)
      cases q : g a with
      | none =>
        rw [List.filterMap_cons_none q] at k
        show lcGo tg tt te vs dp (l.map src) acc f (rs Γ Γ' vs) K
        rw [e]
        exact ih acc f hr k
      | some z =>
        obtain ⟨d, fr⟩ := z
        rw [List.filterMap_cons_some q] at k
        show lcGo tg tt te vs dp (l.map src) (acc ++ [d]) (f && fr) (rs Γ Γ' vs) K
        rw [e]
        refine ih _ _ hr ?_
        rw [List.append_assoc]
        simpa [Bool.and_assoc] using k
  exact main l [] true h (by simpa using k)
theorem all_true {α : Type} (l : List α) (g : α → D) : ((l.map fun a => (g a, true)).all (·.2)) = true := by
  induction l with
  | nil => rfl
  | cons a l ih => rw [List.map_cons, List.all_cons, ih]; rfl
/-- kept where c holds -/
theorem fil_map {α β : Type} (c : α → Bool) (g : α → β) : ∀ l : List α, (l.filterMap fun a => if c a = true then some (g a) else none) = (l.filter c).map g
  | [] => rfl
  | a :: l => by
    have ih := fil_map c g l
    cases h : c a with
    | true => rw [List.filterMap_cons_some (b := g a) (by rw [if_pos h]), List.filter_cons_of_pos h, List.map_cons, ih]
    | false => rw [List.filterMap_cons_none (by rw [if_neg (by rw [h]; exact Bool.false_ne_true)]), List.filter_cons_of_neg (by rw [h]; exact Bool.false_ne_true), ih]
theorem lc_filS {α : Type} {tg : WG} {tt : WT} {te : WE} {vs : List Nat} {dp : Dep} {Γ : En} {K : List D → Bool → En → Prop} {its : List (D × Bool)} (l : List α) (src : α → D × Bool) (c : α → Bool) (g : α → D) (hd : depE Γ dp)
    (h : ∀ a ∈ l, LcIt tg tt te vs Γ (src a) (if c a = true then some (g a, true) else none)) (k : K ((l.filter c).map g) true Γ) (hi : its = l.map src := by rfl) : lcGo tg tt te vs dp its [] true Γ K := by
  subst hi
  refine lc_map l src _ hd h ?_
  rw [fil_map c (fun a => (g a, true)) l, all_true, List.map_map]
  exact k
theorem lc_mapS {α : Type} {tg : WG} {tt : WT} {te : WE} {vs : List Nat} {dp : Dep} {Γ : En} {K : List D → Bool → En → Prop} {its : List (D × Bool)} (l : List α) (src : α → D × Bool) (g : α → D) (hd : depE Γ dp)
    (h : ∀ a ∈ l, LcIt tg tt te vs Γ (src a) (some (g a, true))) (k : K (l.map g) true Γ) (hi : its = l.map src := by rfl) : lcGo tg tt te vs dp its [] true Γ K := by
  refine lc_filS l src (fun _ => true) g hd (fun a ha => by rw [if_pos rfl]; exact h a ha) ?_ hi
  rw [List.filter_eq_self.mpr fun _ _ => rfl]
  exact k
theorem dep0 {Γ : En} : depE Γ [] := fun _ h => by cases h

/-! ### stuck tests -/
theorem bT {c : Bool} {A B : Prop} (h : c = true) (k : A) : ifB c A B := by
  subst h
  exact k
theorem bF {c : Bool} {A B : Prop} (h : c = false) (k : B) : ifB c A B := by
  subst h
  exact k
theorem bB {c : Bool} {A B : Prop} (h1 : c = true → A) (h2 : c = false → B) : ifB c A B := by
  cases c with
  | true => exact h1 rfl
  | false => exact h2 rfl
theorem dT {c : Bool} {A B : Prop} (h : c = true) (k : A) : ifD (.bl c) A B := by
  subst h
  exact k
theorem dF {c : Bool} {A B : Prop} (h : c = false) (k : B) : ifD (.bl c) A B := by
  subst h
  exact k
theorem dB {c : Bool} {A B : Prop} (h1 : c = true → A) (h2 : c = false → B) : ifD (.bl c) A B := by
  cases c with
  | true => exact h1 rfl
  | false => exact h2 rfl
theorem nT {c : Bool} (h : c = true) : (!c) = false := by rw [h]; rfl
theorem nF {c : Bool} (h : c = false) : (!c) = true := by rw [h]; rfl
theorem yT {p : Prop} [Decidable p] (h : p) : decide p = true := decide_eq_true h
theorem yF {p : Prop} [Decidable p] (h : ¬ p) : decide p = false := decide_eq_false h
theorem size_ok {n : Nat} (h : n ≤ 1000000) : n ≤ sizeLine := by
  rw [sizeLine_eq]
  omega
theorem size_lt {n : Nat} (h : n ≤ 1000000) : n < sizeLine := by
  rw [sizeLine_eq]
  omega
/-! ### walks -/
theorem for_pre {α : Type} {tg : WG} {body : WS} {P : DE} {its : List (D × Bool)} {Γ : En} (l : List α) (src : α → D × Bool) (I : List α → En → Prop) (h0 : I [] Γ)
    (hs : ∀ pre a r Γ (N : En → Prop), l = pre ++ a :: r → I pre Γ → (∀ Γ', I (pre ++ [a]) Γ' → N Γ') → tg (src a).1 (src a).2 Γ fun Γ1 => body { P with nx := N, ct := N, bk := P.nx } Γ1)
    (he : ∀ Γ, I l Γ → P.nx Γ) (hi : its = l.map src := by rfl) : forGo tg body P its Γ := by
  subst hi
  have main : ∀ (r pre : List α) (Γ : En), l = pre ++ r → I pre Γ → forGo tg body P (r.map src) Γ := by
    intro r
    induction r with
    | nil =>
      intro pre Γ e h
      rw [List.append_nil] at e
      subst e
      exact he Γ h
    | cons a r ih =>
      intro pre Γ e h
      exact hs pre a r Γ _ e h fun Γ' h' => ih (pre ++ [a]) Γ' (by rw [e, List.append_assoc]; rfl) h'
  exact main l [] Γ rfl h0

/-! ### dicts -/
section
variable {κ : Type} [DecidableEq κ]
theorem lookD_nil (k : κ) : lookD ([] : List (κ × D)) k = none := rfl
theorem lookD_cons (p : κ × D) (r : List (κ × D)) (k : κ) : lookD (p :: r) k = if p.1 = k then some p.2 else lookD r k := by
  by_cases e : p.1 = k
  · simp [lookD, List.find?_cons, e]
  · simp [lookD, List.find?_cons, e]
theorem lookD_app (l : List (κ × D)) (k j : κ) (d : D) : lookD (l ++ [(k, d)]) j = match lookD l j with
    | some x => some x
    | none => if k = j then some d else none := by
  induction l with
  | nil => rw [List.nil_append, lookD_cons, lookD_nil]
  | cons p l ih =>
    rw [List.cons_append, lookD_cons, lookD_cons, ih]
    by_cases e : p.1 = j
    · rw [if_pos e, if_pos e]
    · rw [if_neg e, if_neg e]
theorem any_look (l : List (κ × D)) (k : κ) : (l.any fun kv => decide (kv.1 = k)) = (lookD l k).isSome := by
  induction l with
  | nil => rfl
  | cons p l ih =>
    rw [List.any_cons, lookD_cons, ih]
    by_cases e : p.1 = k
    · simp [e]
    · simp [e]
theorem lookD_map (l : List (κ × D)) (k j : κ) (d : D) : lookD (l.map fun kv => if kv.1 = k then (kv.1, d) else kv) j = if (lookD l j).isSome = true then (if j = k then some d else lookD l j) else none := by
  induction l with
  | nil => rfl
  | cons p l ih =>
    rw [List.map_cons, lookD_cons p]
    by_cases e : p.1 = k
    · rw [if_pos e, lookD_cons, ih]
      show (if p.1 = j then some d else _) = _
      by_cases e2 : p.1 = j
      · have e3 : j = k := e2.symm.trans e
        rw [if_pos e2, if_pos e2, if_pos e3]
        rfl
      · rw [if_neg e2, if_neg e2]
    · rw [if_neg e, lookD_cons, ih]
      by_cases e2 : p.1 = j
      · have e3 : ¬ j = k := fun z => e (e2.trans z)
        rw [if_pos e2, if_pos e2, if_neg e3]
        rfl
      · rw [if_neg e2, if_neg e2]
theorem lookD_put (l : List (κ × D)) (k j : κ) (d : D) : lookD (putD l k d) j = if j = k then some d else lookD l j := by
  unfold putD
  rw [any_look]
  cases h : lookD l k with
  | none =>
    rw [if_neg (by simp), lookD_app]
    by_cases e : j = k
    · subst e
      rw [h, if_pos rfl]
    · have e' : ¬ k = j := fun z => e z.symm
      rw [if_neg e, if_neg e']
      cases q : lookD l j <;> rfl
  | some x =>
    rw [if_pos (by simp), lookD_map]
    by_cases e : j = k
    · subst e
      simp [h]
    · rw [if_neg e]
      cases h2 : lookD l j <;> simp [h2, e]
end
/-- dict comprehensions whose turns leave the slots as they were: the last value at each key -/
def DcIt (tg : WG) (tt : WT) (tk te : WE) (vs : List Nat) (Γ : En) (x : D × Bool) (k : Key) (d : D) : Prop :=
  ∀ (KT : Key → D → Bool → En → Prop) (KF : En → Prop), (∀ Γ', rs Γ Γ' vs = Γ → KT k d true Γ') → tg x.1 x.2 (wp Γ vs) fun Γ1 => tt ex0 Γ1 fun b Γ2 => ifB b (tk ex0 Γ2 fun y _ Γ3 => te ex0 Γ3 fun d fr Γ4 => (match keyOf y with
      | some k => KT k d fr Γ4
      | none => False)) (KF Γ2)
theorem dc_map {α : Type} {tg : WG} {tt : WT} {tk te : WE} {vs : List Nat} {dp : Dep} {Γ : En} {K : List (Key × D) → Bool → En → Prop} {its : List (D × Bool)} (l : List α) (src : α → D × Bool) (gk : α → Key) (gd : α → D) (hd : depE Γ dp)
    (h : ∀ a ∈ l, DcIt tg tt tk te vs Γ (src a) (gk a) (gd a)) (k : K (l.foldl (fun acc a => putD acc (gk a) (gd a)) []) true Γ) (hi : its = l.map src := by rfl) : dcGo tg tt tk te vs dp its [] true Γ K := by
  subst hi
  have main : ∀ (l : List α) (acc : List (Key × D)), (∀ a ∈ l, DcIt tg tt tk te vs Γ (src a) (gk a) (gd a)) → K (l.foldl (fun acc a => putD acc (gk a) (gd a)) acc) true Γ → dcGo tg tt tk te vs dp (l.map src) acc true Γ K := by
    intro l
    induction l with
    | nil => exact fun acc _ k => ⟨hd, k⟩
    | cons a l ih =>
      intro acc h k
      refine ⟨hd, ?_⟩
      refine h a List.mem_cons_self (fun ky d fr Γ4 => dcGo tg tt tk te vs dp (l.map src) (putD acc ky d) (true && fr) (rs Γ Γ4 vs) K) (fun Γ2 => dcGo tg tt tk te vs dp (l.map src) acc true (rs Γ Γ2 vs) K) fun Γ' e => ?_
      show dcGo tg tt tk te vs dp (l.map src) (putD acc (gk a) (gd a)) (true && true) (rs Γ Γ' vs) K
      rw [e]
      exact ih _ (fun y hy => h y (List.mem_cons_of_mem _ hy)) k
  exact main l [] h k
theorem fold_look {α : Type} (gk : α → Key) (gd : α → D) (j : Key) : ∀ (l : List α) (acc : List (Key × D)), (lookD (l.foldl (fun acc a => putD acc (gk a) (gd a)) acc) j).isSome = true ↔ (lookD acc j).isSome = true ∨ j ∈ l.map gk
  | [], acc => by simp
  | a :: l, acc => by
    rw [List.foldl_cons, fold_look gk gd j l, lookD_put]
    by_cases e : j = gk a
    · simp [e]
    · simp [e]
theorem enum_map {α : Type} (l : List α) (g : α → D) (fr : Bool) : enumD (l.map g) fr = l.zipIdx.map fun q => (.tup [.int (q.2 : Int), g q.1], fr) := by
  unfold enumD
  rw [List.zipIdx_map, List.map_map]
  rfl
theorem at0 {α : Type} (x : α) (r : List α) : atI (x :: r) 0 = some x := by
  unfold atI ixN
  rw [if_pos (by omega), if_pos (by simp <;> omega)]
  rfl
theorem at1 {α : Type} (x y : α) (r : List α) : atI (x :: y :: r) 1 = some y := by
  unfold atI ixN
  rw [if_pos (by omega), if_pos (by simp <;> omega)]
  rfl
end Q

/-! Q, part 2: nets, and what the defs of k01 promise. -/
namespace Q
open PySem L2 Y

/-! ### nets -/
abbrev Ar := List (Int × Int)
def pts (n : Int) : List Int := (List.range n.toNat).map fun (i : Nat) => 1 + (i : Int)
/-- the two ends of an arrow, the lesser first -/
def ends2 (p : Int × Int) : Int × Int := (min p.1 p.2, max p.1 p.2)
def inR (n : Int) (p : Int × Int) : Prop := (1 ≤ p.1 ∧ p.1 ≤ n) ∧ (1 ≤ p.2 ∧ p.2 ≤ n) ∧ p.1 ≠ p.2
inductive Rch (l : Ar) : Int → Int → Prop
  | refl (a : Int) : Rch l a a
  | step {a b c : Int} : Rch l a b → ((b, c) ∈ l ∨ (c, b) ∈ l) → Rch l a c
/-- what check_both lets pass -/
structure Ok (n : Int) (l : Ar) : Prop where
  n1 : 1 ≤ n
  n12 : n ≤ 12
  len : l.length ≤ 30
  rng : ∀ p ∈ l, inR n p
  dst : l.Pairwise fun p q => ends2 p ≠ ends2 q
  con : ∀ k, 1 ≤ k → k ≤ n → Rch l 1 k
def mayI (n : Int) (l : Ar) : List Int := (pts n).filter fun k => decide (k ∉ l.map (·.1))
def trn (l : Ar) (p : Int) : Ar := l.map fun a => if a.2 = p then (a.2, a.1) else a
/-- the rows that in_order sorts -/
def t4 (p : Int × Int) : D := .tup [.int (min p.1 p.2), .int (max p.1 p.2), .int p.1, .int p.2]
def srt (l : Ar) : Ar := l.mergeSort fun p q => leD (t4 p) (t4 q)
/-- points that lead to none of left -/
def endsOf (l : Ar) (left : List Int) : List Int := left.filter fun k => decide (l.filter (fun a => decide (a.1 = k ∧ a.2 ∈ left)) = [])
def brdF (l : Ar) : Nat → List Int → List Int
  | 0, left => left
  | m + 1, left => if endsOf l left = [] then left else brdF l m (left.filter fun k => decide (k ∉ endsOf l left))
def brd (n : Int) (l : Ar) : List Int := brdF l n.toNat (pts n)
/-- turns, one behind another -/
def ply (l : Ar) (ts : List Int) : Ar := ts.foldl trn l
def legal (n : Int) : Ar → List Int → Prop
  | _, [] => True
  | l, t :: ts => t ∈ mayI n l ∧ legal n (trn l t) ts

/-! ### promises: the program -/
def isWh : D → Bool
  | .int _ => true
  | _ => false
def fs_is_whole : FS := fun ds Q _ => ∃ d t, ds = [d] ∧ tyD d = some t ∧ Q (.bl (isWh d)) true
def fs_check_number : FS := fun ds Q _ => ∃ n a b : Int, ds = [.int n, .int a, .int b] ∧ a ≤ n ∧ n ≤ b ∧ Q .non true
def fs_check_points : FS := fun ds Q _ => ∃ n : Int, ds = [.int n] ∧ 1 ≤ n ∧ n ≤ 12 ∧ Q .non true
def fs_is_pair : FS := fun ds Q _ => ∃ (p : Int × Int) (n : Int), ds = [prD p, .int n] ∧ inR n p ∧ Q (.bl true) true
def fs_wrong_pair : FS := fun ds Q _ => ∃ (l : Ar) (n : Int), ds = [arD l, .int n] ∧ l.length ≤ 30 ∧ (∀ p ∈ l, inR n p) ∧ (l.Pairwise fun p q => ends2 p ≠ ends2 q) ∧ Q .non true
def fs_reached_in : FS := fun ds Q _ => ∃ (n : Int) (l : Ar), ds = [.int n, arD l] ∧ 1 ≤ n ∧ n ≤ 12 ∧ (∀ p ∈ l, inR n p) ∧ ∀ kvs fr, (∀ k : Int, (lookD kvs (.inl k)).isSome = true ↔ Rch l 1 k) → Q (.dk kvs) fr
def fs_check_hanging : FS := fun ds Q _ => ∃ (n : Int) (l : Ar), ds = [.int n, arD l] ∧ 1 ≤ n ∧ n ≤ 12 ∧ (∀ p ∈ l, inR n p) ∧ (∀ k, 1 ≤ k → k ≤ n → Rch l 1 k) ∧ Q .non true
def fs_check_arrows : FS := fun ds Q _ => ∃ (n : Int) (l : Ar), ds = [arD l, .int n] ∧ Ok n l ∧ Q .non true
def fs_check_both : FS := fun ds Q _ => ∃ (n : Int) (l : Ar), ds = [.int n, arD l] ∧ Ok n l ∧ Q .non true
def fs_check_point : FS := fun ds Q _ => ∃ p n : Int, ds = [.int p, .int n] ∧ 1 ≤ p ∧ p ≤ n ∧ Q .non true
def fs_check_turns : FS := fun ds Q _ => ∃ (ts : List Int) (n : Int), ds = [inD ts, .int n] ∧ (∀ t ∈ ts, 1 ≤ t ∧ t ≤ n) ∧ Q .non true
def fs_in_order : FS := fun ds Q _ => ∃ l : Ar, ds = [arD l] ∧ l.length ≤ 100 ∧ Q (arD (srt l)) true
def fs_may_in : FS := fun ds Q _ => ∃ (n : Int) (l : Ar), ds = [.int n, arD l] ∧ n ≤ 100 ∧ 0 ≤ n ∧ l.length ≤ 100 ∧ Q (inD (mayI n l)) true
def fs_turned_in : FS := fun ds Q _ => ∃ (l : Ar) (p : Int), ds = [arD l, .int p] ∧ l.length ≤ 100 ∧ Q (arD (trn l p)) true
def fs_barred_in : FS := fun ds Q _ => ∃ (n : Int) (l : Ar), ds = [.int n, arD l] ∧ n ≤ 100 ∧ 0 ≤ n ∧ l.length ≤ 100 ∧ Q (inD (brd n l)) true
def fs_may_turn : FS := fun ds Q _ => ∃ (n : Int) (l : Ar), ds = [.int n, arD l] ∧ Ok n l ∧ Q (inD (mayI n l)) true
def fs_turn : FS := fun ds Q _ => ∃ (n : Int) (l : Ar) (p : Int), ds = [.int n, arD l, .int p] ∧ Ok n l ∧ p ∈ mayI n l ∧ Q (arD (srt (trn l p))) true
def fs_after_in : FS := fun ds Q _ => ∃ (n : Int) (l : Ar) (ts : List Int), ds = [.int n, arD l, inD ts] ∧ n ≤ 100 ∧ 0 ≤ n ∧ l.length ≤ 100 ∧ legal n l ts ∧ ∀ fr, Q (.tup [arD (ply l ts), .non]) fr
def fs_after_turns : FS := fun ds Q _ => ∃ (n : Int) (l : Ar) (ts : List Int), ds = [.int n, arD l, inD ts] ∧ Ok n l ∧ legal n l ts ∧ Q (arD (srt (ply l ts))) true
def fs_barred : FS := fun ds Q _ => ∃ (n : Int) (l : Ar), ds = [.int n, arD l] ∧ Ok n l ∧ Q (inD (brd n l)) true

/-! ### promises: the law -/
/-- a draws list, k draws behind its start at most -/
def Dr (k : Nat) (os : List D) : Prop := ∃ (a b : Int) (c : Bool), os = [.int a, .int b, .bl c] ∧ 0 ≤ a ∧ a < 10 ^ 14400 ∧ 0 ≤ b ∧ b ≤ k
def fs__law_draws : FS := fun ds Q _ => ∃ c : Int, ds = [.int c] ∧ ∀ os, Dr 0 os → Q (.lst os) true
def fs__law_next : FSM := fun os ds Q => ∃ k : Nat, ds = [] ∧ Dr k os ∧ k ≤ 1000000000 ∧ ∀ os' (v : Int), Dr (k + 1) os' → Q os' (.int v) true
def fs__law_shuffled : FSM := fun os ds Q => ∃ (k : Nat) (xs : List D), ds = [.lst xs] ∧ Dr k os ∧ xs.length ≤ 100 ∧ k + xs.length ≤ 1000000000 ∧ plainAll xs = true ∧ dep (.lst xs) ≤ 60 ∧ ∀ os' ys fr, Dr (k + xs.length) os' → ys.Perm xs → Q os' (.lst ys) fr
/-- a net's bars: in range, distinct, all reached, at most 30 -/
structure Bars (n : Int) (l : Ar) : Prop where
  len : l.length ≤ 30
  rng : ∀ p ∈ l, inR n p
  dst : l.Pairwise fun p q => ends2 p ≠ ends2 q
  con : ∀ k, 1 ≤ k → k ≤ n → Rch l 1 k
def fs__law_bars : FSM := fun os ds Q => ∃ (k : Nat) (n m : Int), ds = [.int n, .int m] ∧ 1 ≤ n ∧ n ≤ 12 ∧ 1 ≤ m ∧ m ≤ 100 ∧ Dr k os ∧ k ≤ 1000000 ∧ ∀ os' l fr, Dr (k + 1000) os' → Bars n l → Q os' (arD l) fr
def fs__law_sides : FSM := fun os ds Q => ∃ (k : Nat) (n : Int) (l : Ar), ds = [.int n, arD l] ∧ 1 ≤ n ∧ n ≤ 12 ∧ Bars n l ∧ Dr k os ∧ k ≤ 1000000 ∧ ∀ os' l' fr, Dr (k + 1000) os' → Ok n l' → Q os' (arD l') fr
def fs__law_may : FS := fun ds Q _ => ∃ (n : Int) (l : Ar), ds = [.int n, arD l] ∧ n ≤ 100 ∧ 0 ≤ n ∧ l.length ≤ 100 ∧ Q (inD (mayI n l)) true
def fs__law_turned : FS := fun ds Q _ => ∃ (l : Ar) (p : Int), ds = [arD l, .int p] ∧ l.length ≤ 100 ∧ Q (arD (trn l p)) true
def fs__law_in_order : FS := fun ds Q _ => ∃ l : Ar, ds = [arD l] ∧ l.length ≤ 100 ∧ ∀ fr, Q (arD (srt l)) fr
/-- one or more steps along arrows -/
inductive Onw (l : Ar) : Int → Int → Prop
  | one {a b : Int} : (a, b) ∈ l → Onw l a b
  | more {a b c : Int} : Onw l a b → (b, c) ∈ l → Onw l a c
def fs__law_onward : FS := fun ds Q _ => ∃ (n : Int) (l : Ar) (k : Int), ds = [.int n, arD l, .int k] ∧ 0 ≤ n ∧ n ≤ 12 ∧ l.length ≤ 30 ∧ (∀ p ∈ l, inR n p) ∧ ∀ ms : List Int, ms.length ≤ 100 → (∀ j, j ∈ ms ↔ Onw l k j) → Q (inD ms) true
def fs__law_barred : FS := fun ds Q _ => ∃ (n : Int) (l : Ar), ds = [.int n, arD l] ∧ 0 ≤ n ∧ n ≤ 12 ∧ l.length ≤ 30 ∧ (∀ p ∈ l, inR n p) ∧ Q (inD (brd n l)) true
def fs__law_played : FSM := fun os ds Q => ∃ (k : Nat) (n : Int) (l : Ar) (m : Int), ds = [.int n, arD l, .int m] ∧ 0 ≤ n ∧ n ≤ 12 ∧ l.length ≤ 30 ∧ 0 ≤ m ∧ m ≤ 60 ∧ Dr k os ∧ k ≤ 10000000 ∧ ∀ os' ts fr, Dr (k + 1000) os' → ts.length ≤ 60 → legal n l ts → Q os' (.tup [inD ts, arD (ply l ts)]) fr
end Q

/-! Q, part 3: the wps of the defs of k01 (printed by gen.py). -/
namespace Q
open PySem L2 Y
@[reducible] def w_is_whole : WS := wRet (wAndV (wIsi "int" (wLook 0)) (wNotV (wIsi "bool" (wLook 0))))
@[reducible] def w_check_number : WS := wIfS (wOr (wNot (wTst (wCall fs_is_whole (wCons (wVar 0) (wNil))))) (wNot (wTst (wChain (kI0 fun i j => .bl (decide (i ≤ j))) (kI0 fun i j => .bl (decide (i ≤ j))) (wVar 1) (wVar 0) (wVar 2))))) (wNever) (wNext)
@[reducible] def w_check_points : WS := wDrop (wCall fs_check_number (wCons (wVar 0) (wCons (wC (.int 1)) (wCons (wC (.int 12)) (wNil)))))
@[reducible] def w_is_pair : WS := wSeq (wIfS (wOr (wNot (wTst (wIsi "list" (wLook 0)))) (wTst (wOp kNe (wC1 kLen (wLook 0)) (wC (.int 2))))) (wRet (wC (.bl false))) (wNext)) (wRet (wAndV (wC1 kAll (wVal (wLc (wItL (wLook 0)) (wName 2) (wYes) (wAndV (wCall fs_is_whole (wCons (wVar 2) (wNil))) (wChain (kI0 fun i j => .bl (decide (i ≤ j))) (kI0 fun i j => .bl (decide (i ≤ j))) (wC (.int 1)) (wVar 2) (wVar 1))) [2]))) (wOp kNe (wIx kIx (wLook 0) (wC (.int 0))) (wIx kIx (wLook 0) (wC (.int 1))))))
@[reducible] def w_wrong_pair : WS := wSeq (wSetO 2 (wDt)) (wSeq (wFor (wItE (wLook 0)) (wTgt (wgCons (wName 3) (wgCons (wName 4) (wgNil)))) (wSeq (wIfS (wOr (wNot (wTst (wCall fs_is_pair (wCons (wVar 4) (wCons (wVar 1) (wNil)))))) (wTst (wIn (wTup (wCons (wC1 kMin (wLook 4)) (wCons (wC1 kMax (wLook 4)) (wNil)))) (wLook 2)))) (wRet (wVar 3)) (wNext)) (wPut 2 (wTup (wCons (wC1 kMin (wLook 4)) (wCons (wC1 kMax (wLook 4)) (wNil)))) (wC (.bl true))))) (wRet (wC .non)))
@[reducible] def w_reached_in : WS := wSeq (wPar 2 3 (wOwn (wDisp1 (wC (.int 1)) (wC (.bl true)))) (wOwn (wLst (wCons (wC (.int 1)) (wNil))))) (wSeq (wWhile (wTst (wCmpV kNe (wLook 3) (wLst (wNil)))) (wSeq (wSet 4 (wPop 3)) (wFor (wItL (wLook 1)) (wTgt (wgCons (wName 5) (wgCons (wName 6) (wgNil)))) (wFor (wItL (wVal (wIf (wTst (wOp kEq (wVar 5) (wVar 4))) (wLst (wCons (wVar 6) (wNil))) (wIf (wTst (wOp kEq (wVar 6) (wVar 4))) (wLst (wCons (wVar 5) (wNil))) (wLst (wNil)))))) (wName 7) (wIfS (wTst (wNotIn (wVar 7) (wLook 2))) (wSeq (wPut 2 (wVar 7) (wC (.bl true))) (wDrop (wApp 3 (wVar 7)))) (wNext)))))) (wRet (wVar 2)))
@[reducible] def w_check_hanging : WS := wSeq (wSet 2 (wCall fs_reached_in (wCons (wVar 0) (wCons (wVar 1) (wNil))))) (wSeq (wSet 3 (wLc (wItR2 (wC (.int 1)) (wOp kAdd (wVar 0) (wC (.int 1)))) (wName 4) (wTst (wNotIn (wVar 4) (wLook 2))) (wVar 4) [4])) (wIfS (wTst (wOp kNe (wVar 3) (wLst (wNil)))) (wNever) (wNext)))
@[reducible] def w_check_arrows : WS := wSeq (wIfS (wOr (wNot (wTst (wIsi "list" (wLook 0)))) (wTst (wOp (kI0 fun i j => .bl (decide (j < i))) (wC1 kLen (wLook 0)) (wC (.int 30))))) (wNever) (wNext)) (wSeq (wSet 2 (wCall fs_wrong_pair (wCons (wVar 0) (wCons (wVar 1) (wNil))))) (wSeq (wIfS (wTst (wOp kNotN (wVar 2) (wC .non))) (wNever) (wNext)) (wDrop (wCall fs_check_hanging (wCons (wVar 1) (wCons (wVar 0) (wNil)))))))
@[reducible] def w_check_both : WS := wSeq (wDrop (wCall fs_check_points (wCons (wVar 0) (wNil)))) (wDrop (wCall fs_check_arrows (wCons (wVar 1) (wCons (wVar 0) (wNil)))))
@[reducible] def w_check_point : WS := wIfS (wOr (wNot (wTst (wCall fs_is_whole (wCons (wVar 0) (wNil))))) (wNot (wTst (wChain (kI0 fun i j => .bl (decide (i ≤ j))) (kI0 fun i j => .bl (decide (i ≤ j))) (wC (.int 1)) (wVar 0) (wVar 1))))) (wNever) (wNext)
@[reducible] def w_check_turns : WS := wSeq (wIfS (wNot (wTst (wIsi "list" (wLook 0)))) (wNever) (wNext)) (wFor (wItE (wLook 0)) (wTgt (wgCons (wName 2) (wgCons (wName 3) (wgNil)))) (wIfS (wOr (wNot (wTst (wCall fs_is_whole (wCons (wVar 3) (wNil))))) (wNot (wTst (wChain (kI0 fun i j => .bl (decide (i ≤ j))) (kI0 fun i j => .bl (decide (i ≤ j))) (wC (.int 1)) (wVar 3) (wVar 1))))) (wNever) (wNext)))
@[reducible] def w_in_order : WS := wRet (wLc (wItL (wVal (wC1 kSorted (wVal (wLc (wItL (wLook 0)) (wName 5) (wYes) (wTup (wCons (wC1 kMin (wLook 5)) (wCons (wC1 kMax (wLook 5)) (wCons (wIx kIx (wLook 5) (wC (.int 0))) (wCons (wIx kIx (wLook 5) (wC (.int 1))) (wNil)))))) [5]))))) (wTgt (wgCons (wName 1) (wgCons (wName 2) (wgCons (wName 3) (wgCons (wName 4) (wgNil)))))) (wYes) (wLst (wCons (wVar 3) (wCons (wVar 4) (wNil)))) [1, 2, 3, 4])
@[reducible] def w_may_in : WS := wSeq (wSet 2 (wDc (wItL (wLook 1)) (wTgt (wgCons (wName 3) (wgCons (wName 4) (wgNil)))) (wYes) (wVar 3) (wC (.bl true)) [3, 4])) (wRet (wLc (wItR2 (wC (.int 1)) (wOp kAdd (wVar 0) (wC (.int 1)))) (wName 5) (wTst (wNotIn (wVar 5) (wLook 2))) (wVar 5) [5]))
@[reducible] def w_turned_in : WS := wRet (wLc (wItL (wLook 0)) (wTgt (wgCons (wName 2) (wgCons (wName 3) (wgNil)))) (wYes) (wIf (wTst (wOp kEq (wVar 3) (wVar 1))) (wLst (wCons (wVar 3) (wCons (wVar 2) (wNil)))) (wLst (wCons (wVar 2) (wCons (wVar 3) (wNil))))) [2, 3])
@[reducible] def w_barred_in : WS := wSeq (wSet 2 (wLR2 (wC (.int 1)) (wOp kAdd (wVar 0) (wC (.int 1))))) (wSeq (wSet 3 (wLc (wItL (wLook 2)) (wName 4) (wTst (wOp kEq (wLc (wItL (wLook 1)) (wTgt (wgCons (wName 5) (wgCons (wName 6) (wgNil)))) (wAnd (wTst (wOp kEq (wVar 5) (wVar 4))) (wTst (wIn (wVar 6) (wLook 2)))) (wVar 6) [5, 6]) (wLst (wNil)))) (wVar 4) [4])) (wSeq (wWhile (wTst (wOp kNe (wVar 3) (wLst (wNil)))) (wSeq (wSet 2 (wLc (wItL (wLook 2)) (wName 4) (wTst (wNotIn (wVar 4) (wLook 3))) (wVar 4) [4])) (wSet 3 (wLc (wItL (wLook 2)) (wName 4) (wTst (wOp kEq (wLc (wItL (wLook 1)) (wTgt (wgCons (wName 5) (wgCons (wName 6) (wgNil)))) (wAnd (wTst (wOp kEq (wVar 5) (wVar 4))) (wTst (wIn (wVar 6) (wLook 2)))) (wVar 6) [5, 6]) (wLst (wNil)))) (wVar 4) [4])))) (wRet (wVar 2))))
@[reducible] def w_may_turn : WS := wSeq (wDrop (wCall fs_check_both (wCons (wVar 0) (wCons (wVar 1) (wNil))))) (wRet (wCall fs_may_in (wCons (wVar 0) (wCons (wVar 1) (wNil)))))
@[reducible] def w_turn : WS := wSeq (wDrop (wCall fs_check_both (wCons (wVar 0) (wCons (wVar 1) (wNil))))) (wSeq (wDrop (wCall fs_check_point (wCons (wVar 2) (wCons (wVar 0) (wNil))))) (wSeq (wIfS (wTst (wNotIn (wVar 2) (wVal (wCall fs_may_in (wCons (wVar 0) (wCons (wVar 1) (wNil))))))) (wNever) (wNext)) (wRet (wCall fs_in_order (wCons (wCall fs_turned_in (wCons (wVar 1) (wCons (wVar 2) (wNil)))) (wNil))))))
@[reducible] def w_after_in : WS := wSeq (wFor (wItE (wLook 2)) (wTgt (wgCons (wName 3) (wgCons (wName 4) (wgNil)))) (wSeq (wIfS (wTst (wNotIn (wVar 4) (wVal (wCall fs_may_in (wCons (wVar 0) (wCons (wVar 1) (wNil))))))) (wRet (wTup (wCons (wVar 1) (wCons (wVar 3) (wNil))))) (wNext)) (wSet 1 (wCall fs_turned_in (wCons (wVar 1) (wCons (wVar 4) (wNil))))))) (wRet (wTup (wCons (wVar 1) (wCons (wC .non) (wNil)))))
@[reducible] def w_after_turns : WS := wSeq (wDrop (wCall fs_check_both (wCons (wVar 0) (wCons (wVar 1) (wNil))))) (wSeq (wDrop (wCall fs_check_turns (wCons (wVar 2) (wCons (wVar 0) (wNil))))) (wSeq (wAsg (wCall fs_after_in (wCons (wVar 0) (wCons (wVar 1) (wCons (wVar 2) (wNil))))) (wTgt (wgCons (wName 3) (wgCons (wName 4) (wgNil))))) (wSeq (wIfS (wTst (wOp kNotN (wVar 4) (wC .non))) (wNever) (wNext)) (wRet (wCall fs_in_order (wCons (wVar 3) (wNil)))))))
@[reducible] def w_barred : WS := wSeq (wDrop (wCall fs_check_both (wCons (wVar 0) (wCons (wVar 1) (wNil))))) (wRet (wCall fs_barred_in (wCons (wVar 0) (wCons (wVar 1) (wNil)))))
@[reducible] def w__law_draws : WS := wRet (wLst (wCons (wOp (kI (fun _ j => 0 < j) fun i j => .int (i % j)) (wC1 kInt (wLook 0)) (wOp (kI CPowW fun i j => .int (i ^ j.toNat)) (wOp (kI CPowW fun i j => .int (i ^ j.toNat)) (wOp (kI CPowW fun i j => .int (i ^ j.toNat)) (wC (.int 10)) (wC (.int 60))) (wC (.int 60))) (wC (.int 4)))) (wCons (wC (.int 0)) (wCons (wOp (kI0 fun i j => .bl (decide (j ≤ i))) (wVar 0) (wOp (kI CPowW fun i j => .int (i ^ j.toNat)) (wC (.int 10)) (wC (.int 18)))) (wNil)))))
@[reducible] def w__law_next : WS := wSeq (wPut 0 (wC (.int 1)) (wOp kAdd (wIx kIx (wLook 0) (wC (.int 1))) (wC (.int 1)))) (wSeq (wSet 1 (wIx kIx (wLook 0) (wC (.int 1)))) (wSeq (wIfS (wTst (wIx kIx (wLook 0) (wC (.int 2)))) (wSeq (wSet 2 (wOp (kI (fun _ j => 0 < j) fun i j => .int (i % j)) (wC1 kInt (wVal (wIx kIx (wLook 0) (wC (.int 0))))) (wOp (kI CPowW fun i j => .int (i ^ j.toNat)) (wC (.int 10)) (wC (.int 6))))) (wSeq (wPut 0 (wC (.int 0)) (wOp (kI CDivW fun i j => .int (i / j)) (wIx kIx (wLook 0) (wC (.int 0))) (wOp (kI CPowW fun i j => .int (i ^ j.toNat)) (wC (.int 10)) (wC (.int 6))))) (wRet (wVar 2)))) (wNext)) (wSeq (wSet 2 (wOp (kI (fun _ j => 0 < j) fun i j => .int (i % j)) (wC1 kInt (wVal (wOp kMul (wOp kAdd (wOp kAdd (wOp (kI (fun _ j => 0 < j) fun i j => .int (i % j)) (wC1 kInt (wVal (wIx kIx (wLook 0) (wC (.int 0))))) (wC (.int 1000003))) (wOp kMul (wOp kMul (wVar 1) (wVar 1)) (wC (.int 7919)))) (wVar 1)) (wC (.int 48271))))) (wC (.int 2147483629)))) (wSeq (wSet 2 (wOp (kI (fun _ j => 0 < j) fun i j => .int (i % j)) (wC1 kInt (wVal (wOp kMul (wVar 2) (wVar 2)))) (wC (.int 2147483587)))) (wRet (wOp (kI CDivW fun i j => .int (i / j)) (wOp (kI (fun _ j => 0 < j) fun i j => .int (i % j)) (wC1 kInt (wVal (wOp kMul (wVar 2) (wOp kAdd (wVar 2) (wC (.int 2)))))) (wC (.int 2147483579))) (wC (.int 7))))))))
@[reducible] def w__law_shuffled : WS := wSeq (wSetO 2 (wC1 kList (wLook 1))) (wSeq (wSetO 3 (wLst (wNil))) (wSeq (wWhile (wTst (wCmpV kNe (wLook 2) (wLst (wNil)))) (wDrop (wApp 3 (wPopAt 2 (wOp (kI (fun _ j => 0 < j) fun i j => .int (i % j)) (wC1 kInt (wVal (wCallM 0 fs__law_next (wNil)))) (wC1 kLen (wLook 2))))))) (wRet (wVar 3))))
@[reducible] def w__law_bars : WS := wSeq (wSet 3 (wCallM 0 fs__law_shuffled (wCons (wLR2 (wC (.int 1)) (wOp kAdd (wVar 1) (wC (.int 1)))) (wNil)))) (wSeq (wSet 4 (wOp (kI (fun _ j => 0 < j) fun i j => .int (i % j)) (wC1 kInt (wVal (wCallM 0 fs__law_next (wNil)))) (wC (.int 4)))) (wSeq (wSetO 5 (wLst (wNil))) (wSeq (wFor (wItR2 (wC (.int 1)) (wVar 1)) (wName 6) (wDrop (wApp 5 (wLst (wCons (wIx kIx (wLook 3) (wVar 6)) (wCons (wIx kIx (wLook 3) (wIx kIx (wVal (wLst (wCons (wOp (kI (fun _ j => 0 < j) fun i j => .int (i % j)) (wC1 kInt (wVal (wCallM 0 fs__law_next (wNil)))) (wVar 6)) (wCons (wOp (kI0 fun i j => .int (i - j)) (wVar 6) (wC (.int 1))) (wCons (wC (.int 0)) (wCons (wOp (kI CDivW fun i j => .int (i / j)) (wOp (kI0 fun i j => .int (i - j)) (wVar 6) (wC (.int 1))) (wC (.int 2))) (wNil))))))) (wVar 4))) (wNil))))))) (wSeq (wFor (wItR1 (wOp (kI (fun _ j => 0 < j) fun i j => .int (i % j)) (wC1 kInt (wVal (wCallM 0 fs__law_next (wNil)))) (wC2 kMin2 (wVar 2) (wIx kIx (wVal (wLst (wCons (wC (.int 1)) (wCons (wC (.int 3)) (wCons (wC (.int 9)) (wCons (wC (.int 33)) (wNil))))))) (wOp (kI (fun _ j => 0 < j) fun i j => .int (i % j)) (wC1 kInt (wVal (wCallM 0 fs__law_next (wNil)))) (wC (.int 4))))))) (wName 7) (wSeq (wPar 8 9 (wDat (wOp kAdd (wC (.int 1)) (wOp (kI (fun _ j => 0 < j) fun i j => .int (i % j)) (wC1 kInt (wVal (wCallM 0 fs__law_next (wNil)))) (wVar 1)))) (wDat (wOp kAdd (wC (.int 1)) (wOp (kI (fun _ j => 0 < j) fun i j => .int (i % j)) (wC1 kInt (wVal (wCallM 0 fs__law_next (wNil)))) (wVar 1))))) (wIfS (wAnd (wTst (wOp kNe (wVar 8) (wVar 9))) (wAnd (wTst (wNotIn (wLst (wCons (wVar 8) (wCons (wVar 9) (wNil)))) (wLook 5))) (wAnd (wTst (wNotIn (wLst (wCons (wVar 9) (wCons (wVar 8) (wNil)))) (wLook 5))) (wTst (wOp (kI0 fun i j => .bl (decide (i < j))) (wC1 kLen (wLook 5)) (wC (.int 30))))))) (wDrop (wApp 5 (wLst (wCons (wVar 8) (wCons (wVar 9) (wNil)))))) (wNext)))) (wRet (wCallM 0 fs__law_shuffled (wCons (wVar 5) (wNil))))))))
@[reducible] def w__law_sides : WS := wSeq (wIfS (wTst (wOp kEq (wOp (kI (fun _ j => 0 < j) fun i j => .int (i % j)) (wC1 kInt (wVal (wCallM 0 fs__law_next (wNil)))) (wC (.int 3))) (wC (.int 0)))) (wRet (wLc (wItL (wLook 2)) (wTgt (wgCons (wName 4) (wgCons (wName 5) (wgNil)))) (wYes) (wSlK (wVal (wLst (wCons (wVar 4) (wCons (wVar 5) (wNil))))) (wIx kIx (wVal (wLst (wCons (wC (.int 1)) (wCons (wNeg (wC (.int 1))) (wNil))))) (wOp (kI (fun _ j => 0 < j) fun i j => .int (i % j)) (wC1 kInt (wVal (wCallM 0 fs__law_next (wNil)))) (wC (.int 2))))) [4, 5])) (wNext)) (wSeq (wSet 3 (wCallM 0 fs__law_shuffled (wCons (wLR1 (wVar 1)) (wNil)))) (wRet (wLc (wItL (wLook 2)) (wTgt (wgCons (wName 4) (wgCons (wName 5) (wgNil)))) (wYes) (wIf (wTst (wOp (kI0 fun i j => .bl (decide (i < j))) (wIx kIx (wLook 3) (wOp (kI0 fun i j => .int (i - j)) (wVar 4) (wC (.int 1)))) (wIx kIx (wLook 3) (wOp (kI0 fun i j => .int (i - j)) (wVar 5) (wC (.int 1)))))) (wLst (wCons (wVar 4) (wCons (wVar 5) (wNil)))) (wLst (wCons (wVar 5) (wCons (wVar 4) (wNil))))) [4, 5])))
@[reducible] def w__law_may : WS := wSeq (wSet 2 (wLc (wItL (wLook 1)) (wTgt (wgCons (wName 3) (wgCons (wName 4) (wgNil)))) (wYes) (wVar 3) [3, 4])) (wRet (wLc (wItR2 (wC (.int 1)) (wOp kAdd (wVar 0) (wC (.int 1)))) (wName 5) (wTst (wNotIn (wVar 5) (wLook 2))) (wVar 5) [5]))
@[reducible] def w__law_turned : WS := wRet (wLc (wItL (wLook 0)) (wTgt (wgCons (wName 2) (wgCons (wName 3) (wgNil)))) (wYes) (wIf (wTst (wOp kEq (wVar 3) (wVar 1))) (wLst (wCons (wVar 3) (wCons (wVar 2) (wNil)))) (wLst (wCons (wVar 2) (wCons (wVar 3) (wNil))))) [2, 3])
@[reducible] def w__law_in_order : WS := wRet (wLc (wItL (wVal (wC1 kSorted (wVal (wLc (wItL (wLook 0)) (wName 1) (wYes) (wTup (wCons (wLst (wCons (wC1 kMin (wLook 1)) (wCons (wC1 kMax (wLook 1)) (wNil)))) (wCons (wVar 1) (wNil)))) [1]))))) (wName 1) (wYes) (wIx kIx (wLook 1) (wC (.int 1))) [1])
@[reducible] def w__law_onward : WS := wSeq (wSet 3 (wLc (wItL (wLook 1)) (wTgt (wgCons (wName 5) (wgCons (wName 6) (wgNil)))) (wTst (wOp kEq (wVar 5) (wVar 2))) (wVar 6) [5, 6])) (wSeq (wFor (wItR1 (wVar 0)) (wName 4) (wSet 3 (wSorSet (wOp kAdd (wVar 3) (wLc (wItL (wLook 1)) (wTgt (wgCons (wName 5) (wgCons (wName 6) (wgNil)))) (wTst (wIn (wVar 5) (wLook 3))) (wVar 6) [5, 6]))))) (wRet (wVar 3)))
@[reducible] def w__law_barred : WS := wSeq (wSet 2 (wLc (wItR2 (wC (.int 1)) (wOp kAdd (wVar 0) (wC (.int 1)))) (wName 4) (wYes) (wCall fs__law_onward (wCons (wVar 0) (wCons (wVar 1) (wCons (wVar 4) (wNil))))) [4])) (wSeq (wSet 3 (wLc (wItR2 (wC (.int 1)) (wOp kAdd (wVar 0) (wC (.int 1)))) (wName 4) (wTst (wIn (wVar 4) (wVal (wIx kIx (wLook 2) (wOp (kI0 fun i j => .int (i - j)) (wVar 4) (wC (.int 1))))))) (wVar 4) [4])) (wRet (wLc (wItR2 (wC (.int 1)) (wOp kAdd (wVar 0) (wC (.int 1)))) (wName 4) (wTst (wOp kNe (wLc (wItL (wLook 3)) (wName 5) (wTst (wIn (wVar 5) (wVal (wIx kIx (wLook 2) (wOp (kI0 fun i j => .int (i - j)) (wVar 4) (wC (.int 1))))))) (wVar 5) [5]) (wLst (wNil)))) (wVar 4) [4])))
@[reducible] def w__law_played : WS := wSeq (wSetO 4 (wLst (wNil))) (wSeq (wFor (wItR1 (wOp (kI (fun _ j => 0 < j) fun i j => .int (i % j)) (wC1 kInt (wVal (wCallM 0 fs__law_next (wNil)))) (wOp kAdd (wVar 3) (wC (.int 1))))) (wName 5) (wSeq (wSet 6 (wCall fs__law_may (wCons (wVar 1) (wCons (wVar 2) (wNil))))) (wIfS (wTst (wOp kNe (wVar 6) (wLst (wNil)))) (wSeq (wDrop (wApp 4 (wIx kIx (wLook 6) (wOp (kI (fun _ j => 0 < j) fun i j => .int (i % j)) (wC1 kInt (wVal (wCallM 0 fs__law_next (wNil)))) (wC1 kLen (wLook 6)))))) (wSet 2 (wCall fs__law_turned (wCons (wVar 2) (wCons (wIx kIx (wLook 4) (wNeg (wC (.int 1)))) (wNil)))))) (wNext)))) (wRet (wTup (wCons (wVar 4) (wCons (wVar 2) (wNil))))))
end Q

/-! Q, part 4: the program's small defs. -/
namespace Q
open PySem L2 Y
-- the head of a wp, unfolded, through tests that are told
local macro_rules | `(tactic| subst_eqs) => `(tactic| ((with_reducible conv => whnf); repeat ((with_reducible first | refine bT rfl ?_ | refine bF rfl ?_ | refine dT rfl ?_ | refine dF rfl ?_ | refine bF (nT rfl) ?_ | refine bT (nF rfl) ?_); (with_reducible conv => whnf))))
abbrev PP (fs : FS) (w : WS) (N : List Str) : Prop := ∀ ds Q ex, fs ds Q ex → w { nx := fun _ => Q .non true, rt := fun d fr _ => Q d fr, xe := ex } (startD N ds)
theorem p_is_whole : PP fs_is_whole w_is_whole ["thing"] := by
  rintro ds Qr ex ⟨d, t, rfl, ht, q⟩
  show w_is_whole _ [some (.dat d false)]
  cases d <;> first | (cases ht; done) | skip
  all_goals subst_eqs
  all_goals exact q
theorem p_check_number : PP fs_check_number w_check_number ["number", "least", "most"] := by
  rintro ds Q ex ⟨n, a, b, rfl, h1, h2, q⟩
  show w_check_number _ [some (.dat (.int n) false), some (.dat (.int a) false), some (.dat (.int b) false)]
  subst_eqs
  refine ⟨.int n, "int", rfl, rfl, ?_⟩
  subst_eqs
  refine dT (yT h1) ?_
  subst_eqs
  refine bF (nT (yT h2)) ?_
  exact q
theorem p_check_points : PP fs_check_points w_check_points ["points"] := by
  rintro ds Q ex ⟨n, rfl, h1, h2, q⟩
  show w_check_points _ [some (.dat (.int n) false)]
  subst_eqs
  exact ⟨n, 1, 12, rfl, h1, h2, q⟩
theorem p_check_point : PP fs_check_point w_check_point ["point", "points"] := by
  rintro ds Q ex ⟨p, n, rfl, h1, h2, q⟩
  show w_check_point _ [some (.dat (.int p) false), some (.dat (.int n) false)]
  subst_eqs
  refine ⟨.int p, "int", rfl, rfl, ?_⟩
  subst_eqs
  refine dT (yT h1) ?_
  subst_eqs
  refine bF (nT (yT h2)) ?_
  exact q
theorem p_is_pair : PP fs_is_pair w_is_pair ["thing", "points", "point"] := by
  rintro ds Q ex ⟨⟨a, b⟩, n, rfl, ⟨⟨h1, h2⟩, ⟨h3, h4⟩, h5⟩, q⟩
  show w_is_pair _ [some (.dat (.lst [.int a, .int b]) false), some (.dat (.int n) false), none]
  simp only at h1 h2 h3 h4 h5
  subst_eqs
  refine ⟨size_ok (by simp), ?_⟩
  refine lc_mapS [a, b] (fun i => (.int i, false)) (fun i => .bl (decide (i ≤ n))) dep0 (fun i hi KT KF k => ?_) ?_
  · have hi' : 1 ≤ i := by
      rcases List.mem_cons.mp hi with e | hi
      · rw [e]; exact h1
      · rw [List.mem_singleton.mp hi]; exact h3
    subst_eqs
    refine ⟨.int i, "int", rfl, rfl, ?_⟩
    subst_eqs
    refine dT (yT hi') ?_
    subst_eqs
    exact k _ (by rfl)
  · subst_eqs
    refine ⟨[decide (a ≤ n), decide (b ≤ n)], rfl, ?_⟩
    refine dT (by rw [yT h2, yT h4]; rfl) ?_
    subst_eqs
    have e : decide (a = b) = false := yF h5
    have q' : Q (.bl (!decide (a = b))) true := by rw [e]; exact q
    exact q'
theorem p_turned_in : PP fs_turned_in w_turned_in ["arrows", "point", "tail", "head"] := by
  rintro ds Q ex ⟨l, p, rfl, hl, q⟩
  show w_turned_in _ [some (.dat (arD l) false), some (.dat (.int p) false), none, none]
  subst_eqs
  refine ⟨size_ok (by simp; omega), ?_⟩
  refine lc_mapS l (fun a => (prD a, false)) (fun a => prD (if a.2 = p then (a.2, a.1) else a)) dep0 (fun a ha KT KF k => ?_) ?_ (List.map_map ..)
  · obtain ⟨t, h⟩ := a
    subst_eqs
    refine bB (fun e => ?_) fun e => ?_
    · subst_eqs
      have e' : h = p := of_decide_eq_true e
      refine ⟨size_ok (by simp), ?_⟩
      rw [if_pos e'] at k
      exact k _ (by rfl)
    · subst_eqs
      have e' : ¬ h = p := of_decide_eq_false e
      refine ⟨size_ok (by simp), ?_⟩
      rw [if_neg e'] at k
      exact k _ (by rfl)
  · have e : (l.map fun a => prD (if a.2 = p then (a.2, a.1) else a)) = (trn l p).map prD := by
      unfold trn
      rw [List.map_map]
      rfl
    rw [e]
    exact q
end Q

/-! Q, part 5: the program's defs, on. -/
namespace Q
open PySem L2 Y
-- the head of a wp, unfolded, through tests that are told
local macro_rules | `(tactic| subst_eqs) => `(tactic| ((with_reducible conv => whnf); repeat ((with_reducible first | refine bT rfl ?_ | refine bF rfl ?_ | refine dT rfl ?_ | refine dF rfl ?_ | refine bF (nT rfl) ?_ | refine bT (nF rfl) ?_); (with_reducible conv => whnf))))
theorem p_check_turns : PP fs_check_turns w_check_turns ["turns", "points", "index", "point"] := by
  rintro ds Q ex ⟨ts, n, rfl, h, q⟩
  show w_check_turns _ [some (.dat (inD ts) false), some (.dat (.int n) false), none, none]
  subst_eqs
  refine ⟨rfl, ?_⟩
  refine for_pre ts.zipIdx _ (fun _ Γ => ∃ a b, Γ = [some (.dat (inD ts) false), some (.dat (.int n) false), a, b]) ⟨none, none, rfl⟩ ?_ ?_ (enum_map ts .int false)
  · rintro pre ⟨t, i⟩ r Γ N e ⟨a, b, rfl⟩ hN
    have ht : t ∈ ts := by
      have : (t, i) ∈ ts.zipIdx := by rw [e]; simp
      exact (List.mem_zipIdx this).2.2 ▸ List.getElem_mem _
    subst_eqs
    refine ⟨.int t, "int", rfl, rfl, ?_⟩
    subst_eqs
    refine dT (yT (h t ht).1) ?_
    subst_eqs
    refine bF (nT (yT (h t ht).2)) ?_
    exact hN _ ⟨_, _, rfl⟩
  · rintro Γ ⟨a, b, rfl⟩
    exact q
theorem may_look (l : Ar) (k : Int) : (lookD (l.foldl (fun acc a => putD acc (Sum.inl a.1 : Key) (.bl true)) []) (.inl k)).isSome = decide (k ∈ l.map (·.1)) := by
  have h := fold_look (fun a : Int × Int => (Sum.inl a.1 : Key)) (fun _ => .bl true) (.inl k) l []
  have e : (Sum.inl k : Key) ∈ l.map (fun a : Int × Int => (Sum.inl a.1 : Key)) ↔ k ∈ l.map (·.1) := by simp
  rw [e] at h
  by_cases hk : k ∈ l.map (·.1)
  · rw [decide_eq_true hk]
    exact h.mpr (.inr hk)
  · rw [decide_eq_false hk]
    cases q : lookD (l.foldl (fun acc a => putD acc (Sum.inl a.1 : Key) (.bl true)) []) (.inl k) with
    | none => rfl
    | some x =>
      rw [q] at h
      rcases h.mp rfl with z | z
      · cases z
      · exact absurd z hk
/-- the numbers of a range as a walk's items -/
theorem rng_pts (n : Int) : rngD 1 (n + 1 - 1).toNat = (pts n).map fun k => (.int k, true) := by
  unfold rngD pts
  rw [List.map_map, Int.add_sub_cancel]
  rfl
theorem p_may_in : PP fs_may_in w_may_in ["points", "arrows", "tails", "tail", "head", "point"] := by
  rintro ds Q ex ⟨n, l, rfl, h1, h2, hl, q⟩
  show w_may_in _ [some (.dat (.int n) false), some (.dat (arD l) false), none, none, none, none]
  subst_eqs
  refine ⟨size_ok (by simp; omega), ?_⟩
  refine dc_map l (fun a => (prD a, false)) (fun a => .inl a.1) (fun _ => .bl true) dep0 (fun a ha KT KF k => ?_) ?_ (List.map_map ..)
  · subst_eqs
    exact k _ (by rfl)
  · subst_eqs
    refine ⟨⟨by decide, by decide, by omega, by omega⟩, ?_, ?_⟩
    · refine size_ok ?_
      rw [rng_pts, List.length_map]
      unfold pts
      rw [List.length_map, List.length_range]
      omega
    · refine lc_filS (pts n) (fun k => (.int k, true)) (fun k => decide (k ∉ l.map fun a : Int × Int => a.1)) .int dep0 (fun k hk KT KF kk => ?_) q (rng_pts n)
      subst_eqs
      have ml := may_look l k
      refine bB (fun e => ?_) fun e => ?_
      · have e2 : decide (k ∉ l.map (·.1)) = true := by
          rw [decide_not, ← ml]
          exact e
        rw [if_pos e2] at kk
        exact kk _ (by rfl)
      · have e2 : ¬ decide (k ∉ l.map (·.1)) = true := by
          rw [decide_not, ← ml]
          intro z
          have e' : (!(lookD (l.foldl (fun acc a => putD acc (Sum.inl a.1 : Key) (.bl true)) []) (.inl k)).isSome) = false := e
          rw [z] at e'
          cases e'
        rw [if_neg e2] at kk
        exact kk _ (by rfl)
theorem p_check_arrows : PP fs_check_arrows w_check_arrows ["arrows", "points", "wrong"] := by
  rintro ds Q ex ⟨n, l, rfl, ok, q⟩
  show w_check_arrows _ [some (.dat (arD l) false), some (.dat (.int n) false), none]
  subst_eqs
  have hl : ¬ (30 : Int) < ((l.map prD).length : Int) := by
    have := ok.len
    rw [List.length_map]
    omega
  refine bF (yF hl) ?_
  subst_eqs
  refine ⟨l, n, rfl, ok.len, ok.rng, ok.dst, ?_⟩
  subst_eqs
  exact ⟨n, l, rfl, ok.n1, ok.n12, ok.rng, ok.con, q⟩
theorem p_check_both : PP fs_check_both w_check_both ["points", "arrows"] := by
  rintro ds Q ex ⟨n, l, rfl, ok, q⟩
  show w_check_both _ [some (.dat (.int n) false), some (.dat (arD l) false)]
  subst_eqs
  refine ⟨n, rfl, ok.n1, ok.n12, ?_⟩
  subst_eqs
  exact ⟨n, l, rfl, ok, q⟩
theorem p_may_turn : PP fs_may_turn w_may_turn ["points", "arrows"] := by
  rintro ds Q ex ⟨n, l, rfl, ok, q⟩
  show w_may_turn _ [some (.dat (.int n) false), some (.dat (arD l) false)]
  subst_eqs
  refine ⟨n, l, rfl, ok, ?_⟩
  subst_eqs
  have := ok.n1
  have := ok.n12
  have := ok.len
  exact ⟨n, l, rfl, by omega, by omega, by omega, q⟩
theorem p_barred : PP fs_barred w_barred ["points", "arrows"] := by
  rintro ds Q ex ⟨n, l, rfl, ok, q⟩
  show w_barred _ [some (.dat (.int n) false), some (.dat (arD l) false)]
  subst_eqs
  refine ⟨n, l, rfl, ok, ?_⟩
  subst_eqs
  have := ok.n1
  have := ok.n12
  have := ok.len
  exact ⟨n, l, rfl, by omega, by omega, by omega, q⟩
/-! ### data facts -/
theorem okD_in (l : List Int) : okD (inD l) = true := by
  have h1 : ∀ l : List Int, plainAll (l.map .int) = true := fun l => by
    induction l with
    | nil => rfl
    | cons a l ih => rw [List.map_cons]; unfold plainAll; rw [ih]; rfl
  have h2 : ∀ l : List Int, depAll (l.map .int) = 0 := fun l => by
    induction l with
    | nil => rfl
    | cons a l ih => rw [List.map_cons]; unfold depAll; rw [ih]; rfl
  unfold okD
  rw [Bool.and_eq_true]
  refine ⟨by unfold Y.plain; exact h1 l, decide_eq_true ?_⟩
  unfold dep
  rw [h2]
  decide
theorem any_in (l : List Int) (p : Int) : ((l.map D.int).any fun z => (pd z).eqv (pd (.int p))) = decide (p ∈ l) := by
  induction l with
  | nil => simp
  | cons a l ih =>
    rw [List.map_cons, List.any_cons, ih]
    have e : (pd (D.int a)).eqv (pd (.int p)) = decide (a = p) := by
      unfold pd
      simp [PyData.eqv]
      rfl
    rw [e]
    by_cases h : a = p
    · subst h; simp
    · have h2 : ¬ p = a := fun z => h z.symm
      simp [h, h2]
theorem min_of {a b m : Int} (h : m ∈ [a, b]) (k : ∀ y ∈ [a, b], m ≤ y) : m = min a b := by
  have k1 := k a (by simp)
  have k2 := k b (by simp)
  rcases List.mem_cons.mp h with e | h
  · omega
  · rw [List.mem_singleton] at h
    omega
theorem max_of {a b m : Int} (h : m ∈ [a, b]) (k : ∀ y ∈ [a, b], y ≤ m) : m = max a b := by
  have k1 := k a (by simp)
  have k2 := k b (by simp)
  rcases List.mem_cons.mp h with e | h
  · omega
  · rw [List.mem_singleton] at h
    omega
theorem pts_mem {n k : Int} : k ∈ pts n ↔ 1 ≤ k ∧ k ≤ n := by
  unfold pts
  rw [List.mem_map]
  constructor
  · rintro ⟨i, hi, e⟩
    rw [List.mem_range] at hi
    omega
  · rintro ⟨h1, h2⟩
    exact ⟨(k - 1).toNat, List.mem_range.mpr (by omega), by omega⟩
theorem may_mem {n k : Int} {l : Ar} : k ∈ mayI n l ↔ (1 ≤ k ∧ k ≤ n) ∧ k ∉ l.map (·.1) := by
  unfold mayI
  rw [List.mem_filter, pts_mem, decide_eq_true_eq]
theorem trn_len (l : Ar) (p : Int) : (trn l p).length = l.length := List.length_map ..
theorem ply_len : ∀ (ts : List Int) (l : Ar), (ply l ts).length = l.length
  | [], _ => rfl
  | t :: ts, l => (ply_len ts (trn l t)).trans (trn_len l t)
theorem p_turn : PP fs_turn w_turn ["points", "arrows", "point"] := by
  rintro ds Q ex ⟨n, l, p, rfl, ok, hp, q⟩
  show w_turn _ [some (.dat (.int n) false), some (.dat (arD l) false), some (.dat (.int p) false)]
  have hp2 := (may_mem.mp hp).1
  have := ok.n1
  have := ok.n12
  have := ok.len
  subst_eqs
  refine ⟨n, l, rfl, ok, ?_⟩
  subst_eqs
  refine ⟨p, n, rfl, hp2.1, hp2.2, ?_⟩
  subst_eqs
  refine ⟨n, l, rfl, by omega, by omega, by omega, ?_⟩
  subst_eqs
  refine ⟨⟨rfl, okD_in _⟩, ?_⟩
  rw [any_in, decide_eq_true hp]
  subst_eqs
  refine ⟨l, p, rfl, by omega, ?_⟩
  subst_eqs
  exact ⟨trn l p, rfl, by rw [trn_len]; omega, q⟩
theorem p_after_in : PP fs_after_in w_after_in ["points", "arrows", "turns", "index", "point"] := by
  rintro ds Q ex ⟨n, l, ts, rfl, h1, h2, hl, lg, q⟩
  show w_after_in _ [some (.dat (.int n) false), some (.dat (arD l) false), some (.dat (inD ts) false), none, none]
  subst_eqs
  refine ⟨rfl, ?_⟩
  refine for_pre ts.zipIdx _ (fun pre Γ => ∃ f a b, Γ = [some (.dat (.int n) false), some (.dat (arD (ply l (pre.map (·.1)))) f), some (.dat (inD ts) false), a, b] ∧ legal n (ply l (pre.map (·.1))) (ts.drop pre.length)) ⟨false, none, none, rfl, lg⟩ ?_ ?_ (enum_map ts .int false)
  · rintro pre ⟨t, i⟩ r Γ N e ⟨f, a, b, rfl, lg⟩ hN
    have hts : ts = pre.map (·.1) ++ t :: r.map (·.1) := by
      have z := congrArg (List.map (·.1)) e
      simpa using z
    have hd : ts.drop pre.length = t :: r.map (·.1) := by
      rw [hts]
      simp
    rw [hd] at lg
    have len := ply_len (pre.map (·.1)) l
    subst_eqs
    refine ⟨n, _, rfl, h1, h2, by rw [len]; exact hl, ?_⟩
    subst_eqs
    refine ⟨⟨rfl, okD_in _⟩, ?_⟩
    rw [any_in, decide_eq_true lg.1]
    subst_eqs
    refine ⟨_, t, rfl, by rw [len]; exact hl, ?_⟩
    subst_eqs
    refine hN _ ⟨true, some (.dat (.int i) false), some (.dat (.int t) false), ?_, ?_⟩
    · rw [List.map_append]
      unfold ply
      rw [List.foldl_append]
      rfl
    · have e1 : ts.drop (pre ++ [(t, i)]).length = r.map (·.1) := by
        rw [List.length_append, List.length_singleton, ← List.drop_drop, hd]
        rfl
      rw [e1, List.map_append]
      have e2 : ply l (pre.map (·.1) ++ [(t, i)].map (·.1)) = trn (ply l (pre.map (·.1))) t := by
        unfold ply
        rw [List.foldl_append]
        rfl
      rw [e2]
      exact lg.2
  · rintro Γ ⟨f, a, b, rfl, _⟩
    have e : ts.zipIdx.map (·.1) = ts := by simp
    rw [e]
    subst_eqs
    refine ⟨size_ok (by simp), ?_⟩
    exact q _
theorem p_after_turns : PP fs_after_turns w_after_turns ["points", "arrows", "turns", "told", "wrong"] := by
  rintro ds Q ex ⟨n, l, ts, rfl, ok, lg, q⟩
  show w_after_turns _ [some (.dat (.int n) false), some (.dat (arD l) false), some (.dat (inD ts) false), none, none]
  have := ok.n1
  have := ok.n12
  have := ok.len
  subst_eqs
  refine ⟨n, l, rfl, ok, ?_⟩
  subst_eqs
  have rg : ∀ (ts : List Int) (l : Ar), legal n l ts → ∀ t ∈ ts, 1 ≤ t ∧ t ≤ n := by
    intro ts
    induction ts with
    | nil => intro l _ t ht; cases ht
    | cons a ts ih =>
      intro l lg t ht
      rcases List.mem_cons.mp ht with e | ht
      · rw [e]; exact (may_mem.mp lg.1).1
      · exact ih _ lg.2 t ht
  refine ⟨ts, n, rfl, rg ts l lg, ?_⟩
  subst_eqs
  refine ⟨n, l, ts, rfl, by omega, by omega, by omega, lg, fun fr => ?_⟩
  subst_eqs
  exact ⟨ply l ts, rfl, by rw [ply_len]; omega, q⟩
theorem t4_depth (p : Int × Int) : (pd (t4 p)).depth ≤ 60 := Nat.le_trans (depth_pd _) (by unfold t4; unfold dep; unfold depAll; unfold depAll; unfold depAll; unfold depAll; unfold depAll; unfold dep; decide)
theorem t4_pd (p : Int × Int) : pd (t4 p) = .tuple [.int (min p.1 p.2), .int (max p.1 p.2), .int p.1, .int p.2] := by
  unfold t4 pd
  rfl
theorem sort_ok (l : Ar) (hl : l.length ≤ 100) : SortOk (l.map t4) := by
  refine ⟨?_, ?_, ?_, size_ok (by rw [List.length_map]; omega), fun d hd => ?_⟩
  · induction l with
    | nil => rfl
    | cons a l ih =>
      rw [List.map_cons]
      unfold plainAll
      rw [ih (by rw [List.length_cons] at hl; omega)]
      rfl
  · rw [List.map_map]
    refine PySem.W.AllAlike.of fun a b => ?_
    show PySem.W.alike (pd (t4 a)) (pd (t4 b)) = true
    rw [t4_pd, t4_pd]
    rfl
  · rw [List.map_map]
    refine PySem.W.Sortable.tuples fun a => ⟨_, _, t4_pd a⟩
  · obtain ⟨a, _, rfl⟩ := List.mem_map.mp hd
    exact t4_depth a
theorem p_in_order : PP fs_in_order w_in_order ["arrows", "low", "high", "tail", "head", "one"] := by
  rintro ds Q ex ⟨l, rfl, hl, q⟩
  show w_in_order _ [some (.dat (arD l) false), none, none, none, none, none]
  subst_eqs
  refine ⟨size_ok (by simp; omega), ?_⟩
  refine lc_mapS l (fun a => (prD a, false)) t4 dep0 (fun a ha KT KF k => ?_) ?_ (List.map_map ..)
  · obtain ⟨t, h⟩ := a
    subst_eqs
    refine ⟨[t, h], rfl, by simp, fun m m1 m2 => ?_⟩
    have em := min_of m1 m2
    subst_eqs
    refine ⟨[t, h], rfl, by simp, fun m' m1' m2' => ?_⟩
    have em' := max_of m1' m2'
    subst_eqs
    rw [at0]
    subst_eqs
    rw [at1]
    subst_eqs
    refine ⟨size_ok (by simp), ?_⟩
    rw [em, em']
    exact k _ (by rfl)
  · subst_eqs
    refine ⟨sort_ok l hl, ?_⟩
    subst_eqs
    have es : (l.map t4).mergeSort leD = (srt l).map t4 := (List.map_mergeSort (r := fun p q => leD (t4 p) (t4 q)) (s := leD) (f := t4) (l := l) fun a _ b _ => rfl).symm
    rw [es]
    refine ⟨size_ok (by rw [List.length_map, List.length_map]; unfold srt; rw [List.length_mergeSort]; omega), ?_⟩
    refine lc_mapS (srt l) (fun a => (t4 a, true)) prD dep0 (fun a ha KT KF k => ?_) q (List.map_map ..)
    subst_eqs
    refine ⟨size_ok (by simp), ?_⟩
    exact k _ (by rfl)
end Q

/-! Q, part 6: the program's walks over pairs, what is reached. -/
namespace Q
open PySem L2 Y
-- the head of a wp, unfolded, through tests that are told
local macro_rules | `(tactic| subst_eqs) => `(tactic| ((with_reducible conv => whnf); repeat ((with_reducible first | refine bT rfl ?_ | refine bF rfl ?_ | refine dT rfl ?_ | refine dF rfl ?_ | refine bF (nT rfl) ?_ | refine bT (nF rfl) ?_); (with_reducible conv => whnf))))
def k2 (p : Int × Int) : List Key := [.inl (min p.1 p.2), .inl (max p.1 p.2)]
theorem k2_ends {p q : Int × Int} (h : k2 p = k2 q) : ends2 p = ends2 q := by
  unfold k2 at h
  unfold ends2
  injection h with h1 h2
  injection h1 with h1
  injection h2 with h2 _
  injection h2 with h2
  rw [h1, h2]
theorem putD_len {κ : Type} [DecidableEq κ] (l : List (κ × D)) (k : κ) (d : D) : (putD l k d).length ≤ l.length + 1 := by
  unfold putD
  split
  · rw [List.length_map]; omega
  · rw [List.length_append]; simp
theorem p_wrong_pair : PP fs_wrong_pair w_wrong_pair ["pairs", "points", "seen", "index", "pair"] := by
  rintro ds Q ex ⟨l, n, rfl, hl, hr, hd, q⟩
  show w_wrong_pair _ [some (.dat (arD l) false), some (.dat (.int n) false), none, none, none]
  subst_eqs
  refine ⟨rfl, ?_⟩
  refine for_pre l.zipIdx _ (fun pre Γ => ∃ kvs f a b, Γ = [some (.dat (arD l) false), some (.dat (.int n) false), some (.own (.dt kvs) f), a, b] ∧ kvs.length ≤ pre.length ∧ ∀ k, (lookD kvs k).isSome = true → ∃ p ∈ pre.map (·.1), k = k2 p) ⟨[], true, none, none, rfl, Nat.le_refl _, fun k h => by cases h⟩ ?_ ?_ (enum_map l prD false)
  · rintro pre ⟨⟨t, h⟩, i⟩ r Γ N e ⟨kvs, f, a, b, rfl, hlen, hk⟩ hN
    have hls : l = pre.map (·.1) ++ (t, h) :: r.map (·.1) := by
      have z := congrArg (List.map (·.1)) e
      simpa using z
    have hm : (t, h) ∈ l := by rw [hls]; simp
    have plen : pre.length ≤ 30 := by
      have z := congrArg List.length hls
      simp at z
      omega
    have hnew : (lookD kvs (k2 (t, h))).isSome = false := by
      cases q : (lookD kvs (k2 (t, h))).isSome with
      | false => rfl
      | true =>
        obtain ⟨p, hp, ek⟩ := hk _ q
        rw [hls, List.pairwise_append] at hd
        exact absurd (k2_ends ek).symm (hd.2.2 p hp (t, h) List.mem_cons_self)
    subst_eqs
    refine ⟨(t, h), n, rfl, hr _ hm, ?_⟩
    subst_eqs
    refine ⟨[t, h], rfl, by simp, fun m m1 m2 => ?_⟩
    have em := min_of m1 m2
    subst em
    subst_eqs
    refine ⟨[t, h], rfl, by simp, fun m m1 m2 => ?_⟩
    have em := max_of m1 m2
    subst em
    subst_eqs
    refine ⟨size_ok (by simp), ?_⟩
    subst_eqs
    refine bF hnew ?_
    subst_eqs
    refine ⟨⟨_, rfl⟩, ?_⟩
    subst_eqs
    refine ⟨[t, h], rfl, by simp, fun m m1 m2 => ?_⟩
    have em := min_of m1 m2
    subst em
    subst_eqs
    refine ⟨[t, h], rfl, by simp, fun m m1 m2 => ?_⟩
    have em := max_of m1 m2
    subst em
    subst_eqs
    refine ⟨size_ok (by simp), ?_⟩
    subst_eqs
    refine ⟨size_lt (by omega), ?_⟩
    subst_eqs
    refine hN _ ⟨putD kvs (k2 (t, h)) (.bl true), _, _, _, rfl, ?_, fun k hk2 => ?_⟩
    · have := putD_len kvs (k2 (t, h)) (.bl true)
      simp
      omega
    · rw [lookD_put] at hk2
      by_cases ek : k = k2 (t, h)
      · exact ⟨(t, h), by simp, ek⟩
      · rw [if_neg ek] at hk2
        obtain ⟨p, hp, ep⟩ := hk k hk2
        exact ⟨p, by rw [List.map_append]; exact List.mem_append_left _ hp, ep⟩
  · rintro Γ ⟨kvs, f, a, b, rfl, _, _⟩
    exact q
/-! ### what is reached -/
def keysD (ks : List Int) : List (Key × D) := ks.map fun k => (.inl k, .bl true)
theorem keysD_look (ks : List Int) (k : Int) : (lookD (keysD ks) (.inl k)).isSome = decide (k ∈ ks) := by
  induction ks with
  | nil => rfl
  | cons a ks ih =>
    unfold keysD at ih ⊢
    rw [List.map_cons, lookD_cons]
    by_cases h : a = k
    · subst h
      rw [if_pos rfl]
      simp
    · have h2 : ¬ (Sum.inl a : Key) = .inl k := fun z => h (by injection z)
      have h3 : ¬ k = a := fun z => h z.symm
      rw [if_neg h2, ih]
      simp [h3]
theorem keysD_put {ks : List Int} {o : Int} (h : o ∉ ks) : putD (keysD ks) (.inl o) (.bl true) = keysD (ks ++ [o]) := by
  unfold putD
  rw [any_look, keysD_look, decide_eq_false h, if_neg Bool.false_ne_true]
  unfold keysD
  rw [List.map_append]
  rfl
theorem few : ∀ (N : Nat) (ks : List Int), ks.Nodup → (∀ k ∈ ks, 1 ≤ k ∧ k ≤ (N : Int)) → ks.length ≤ N
  | 0, ks, _, h => by
    cases ks with
    | nil => exact Nat.le_refl _
    | cons a r => have := h a List.mem_cons_self; omega
  | N + 1, ks, nd, h => by
    have ih := few N (ks.erase ((N : Int) + 1)) (nd.erase _) fun k hk => by
      rw [nd.mem_erase_iff] at hk
      have := h k hk.2
      have := hk.1
      omega
    rw [List.length_erase] at ih
    split at ih <;> omega
theorem eqv_nil (ws : List Int) : (pd (.lst (ws.map .int))).eqv (pd (.lst [])) = decide (ws = []) := by
  cases ws with
  | nil =>
    unfold pd pdAll
    simp [PyData.eqv, PyData.eqvAll]
  | cons a r =>
    rw [List.map_cons]
    unfold pd pdAll
    simp [PyData.eqv, PyData.eqvAll]
/-- the state of the search -/
structure Inv (n : Int) (l : Ar) (ks ws : List Int) : Prop where
  nd : ks.Nodup
  rg : ∀ k ∈ ks, (1 ≤ k ∧ k ≤ n) ∧ Rch l 1 k
  one : 1 ∈ ks
  wk : ∀ w ∈ ws, w ∈ ks
def nb (l : Ar) (k c : Int) : Prop := (k, c) ∈ l ∨ (c, k) ∈ l
theorem Inv.len {n : Int} {l : Ar} {ks ws : List Int} (h : Inv n l ks ws) : ks.length ≤ n.toNat := few n.toNat ks h.nd fun k hk => by
  have := (h.rg k hk).1
  omega
/-- one more is met -/
def met (ks ws : List Int) (o : Int) : List Int × List Int := if o ∈ ks then (ks, ws) else (ks ++ [o], ws ++ [o])
theorem Inv.met {n : Int} {l : Ar} {ks ws : List Int} (h : Inv n l ks ws) {o : Int} (ho : (1 ≤ o ∧ o ≤ n) ∧ Rch l 1 o) : Inv n l (met ks ws o).1 (met ks ws o).2 := by
  unfold Q.met
  split
  · exact h
  · rename_i no
    refine ⟨List.nodup_append.mpr ⟨h.nd, List.pairwise_singleton _ _, fun a ha b hb e => no (by rw [List.mem_singleton.mp hb] at e; rw [← e]; exact ha)⟩, fun k hk => ?_, List.mem_append_left _ h.one, fun w hw => ?_⟩
    · rcases List.mem_append.mp hk with hk | hk
      · exact h.rg k hk
      · rw [List.mem_singleton.mp hk]; exact ho
    · rcases List.mem_append.mp hw with hw | hw
      · exact List.mem_append_left _ (h.wk w hw)
      · exact List.mem_append_right _ hw
theorem met_mem {ks ws : List Int} {o : Int} : o ∈ (met ks ws o).1 := by
  unfold met
  split
  · assumption
  · simp
theorem met_sub {ks ws : List Int} {o k : Int} (h : k ∈ ks) : k ∈ (met ks ws o).1 := by
  unfold met
  split
  · exact h
  · exact List.mem_append_left _ h
theorem met_new {ks ws : List Int} {o k : Int} (h : k ∈ (met ks ws o).1) (hw : k ∉ (met ks ws o).2) : k ∈ ks ∧ k ∉ ws := by
  unfold met at h hw
  split at h
  · rename_i ho
    rw [if_pos ho] at hw
    exact ⟨h, hw⟩
  · rename_i ho
    rw [if_neg ho] at hw
    rcases List.mem_append.mp h with h | h
    · exact ⟨h, fun z => hw (List.mem_append_left _ z)⟩
    · exact absurd (List.mem_append_right _ h) hw
/-- what is left to do -/
def todo (n : Int) (ks ws : List Int) : Nat := 2 * (n.toNat - ks.length) + ws.length
theorem met_todo {n : Int} {l : Ar} {ks ws : List Int} {o : Int} (h : Inv n l (met ks ws o).1 (met ks ws o).2) : todo n (met ks ws o).1 (met ks ws o).2 ≤ todo n ks ws := by
  have hl := h.len
  unfold met todo at *
  split
  · exact Nat.le_refl _
  · rename_i ho
    rw [if_neg ho] at hl
    simp at hl ⊢
    omega
end Q

/-! Q, part 7: reached_in, check_hanging. -/
namespace Q
open PySem L2 Y
-- the head of a wp, unfolded, through tests that are told
local macro_rules | `(tactic| subst_eqs) => `(tactic| ((with_reducible conv => whnf); repeat ((with_reducible first | refine bT rfl ?_ | refine bF rfl ?_ | refine dT rfl ?_ | refine dF rfl ?_ | refine bF (nT rfl) ?_ | refine bT (nF rfl) ?_); (with_reducible conv => whnf))))
/-- the innermost body: other is met -/
abbrev wOther : WS := wIfS (wTst (wNotIn (wVar 7) (wLook 2))) (wSeq (wPut 2 (wVar 7) (wC (.bl true))) (wDrop (wApp 3 (wVar 7)))) (wNext)
abbrev gR (n : Int) (l : Ar) (ks ws : List Int) (f g : Bool) (a b c d : Option Sl) : En := [some (.dat (.int n) false), some (.dat (arD l) false), some (.own (.dk (keysD ks)) f), some (.own (inD ws) g), a, b, c, d]
theorem other_step {n : Int} {l : Ar} {ks ws : List Int} {f g fr : Bool} {a b c : Option Sl} {o : Int} {P : DE} (hk : ks.length ≤ 100) (hw : ws.length ≤ 1000)
    (h : ∀ f' g' d, P.nx (gR n l (met ks ws o).1 (met ks ws o).2 f' g' a b c d)) : wOther P (gR n l ks ws f g a b c (some (.dat (.int o) fr))) := by
  subst_eqs
  have e := keysD_look ks o
  by_cases ho : o ∈ ks
  · refine bF (nT (e.trans (decide_eq_true ho))) ?_
    subst_eqs
    have z := h f g (some (.dat (.int o) fr))
    unfold met at z
    rw [if_pos ho] at z
    exact z
  · refine bT (nF (e.trans (decide_eq_false ho))) ?_
    subst_eqs
    refine ⟨⟨_, rfl⟩, ?_⟩
    subst_eqs
    refine ⟨size_lt (by unfold keysD; rw [List.length_map]; omega), ?_⟩
    rw [keysD_put ho]
    subst_eqs
    refine ⟨trivial, ?_⟩
    subst_eqs
    refine ⟨size_lt (by rw [List.length_map]; omega), ?_⟩
    have z := h (f && true) (g && (fr || true)) (some (.dat (.int o) fr))
    unfold met at z
    rw [if_neg ho] at z
    have ez : (ws ++ [o]).map D.int = ws.map D.int ++ [D.int o] := by rw [List.map_append]; rfl
    unfold gR inD at z
    rw [ez] at z
    exact z
/-- the body over a pair -/
abbrev wPair : WS := wFor (wItL (wVal (wIf (wTst (wOp kEq (wVar 5) (wVar 4))) (wLst (wCons (wVar 6) (wNil))) (wIf (wTst (wOp kEq (wVar 6) (wVar 4))) (wLst (wCons (wVar 5) (wNil))) (wLst (wNil)))))) (wName 7) wOther
def exp1 (w : Int) (s : List Int × List Int) (p : Int × Int) : List Int × List Int := if p.1 = w then met s.1 s.2 p.2 else if p.2 = w then met s.1 s.2 p.1 else s
theorem pair_step {n : Int} {l : Ar} {ks ws : List Int} {f g f4 f5 f6 : Bool} {d : Option Sl} {w t h : Int} {P : DE} (hk : ks.length ≤ 100) (hw : ws.length ≤ 1000)
    (k : ∀ f' g' b c d, P.nx (gR n l (exp1 w (ks, ws) (t, h)).1 (exp1 w (ks, ws) (t, h)).2 f' g' (some (.dat (.int w) f4)) b c d)) :
    wPair P (gR n l ks ws f g (some (.dat (.int w) f4)) (some (.dat (.int t) f5)) (some (.dat (.int h) f6)) d) := by
  unfold exp1 at k
  subst_eqs
  by_cases e1 : t = w
  · refine bT (yT e1) ?_
    subst_eqs
    refine ⟨size_ok (by simp), ?_⟩
    subst_eqs
    refine ⟨rfl, ?_⟩
    rw [if_pos (show (t, h).1 = w from e1)] at k
    refine for_pre [h] (fun o => (.int o, true)) (fun pre Γ => match pre with
      | [] => Γ = gR n l ks ws f g (some (.dat (.int w) f4)) (some (.dat (.int t) f5)) (some (.dat (.int h) f6)) d
      | _ => ∃ f' g' d', Γ = gR n l (met ks ws h).1 (met ks ws h).2 f' g' (some (.dat (.int w) f4)) (some (.dat (.int t) f5)) (some (.dat (.int h) f6)) d') rfl ?_ ?_ (by simp [frs', flt])
    · rintro pre o r Γ N e hp hN
      cases pre with
      | nil =>
        cases e
        have hp' : Γ = gR n l ks ws f g (some (.dat (.int w) f4)) (some (.dat (.int t) f5)) (some (.dat (.int h) f6)) d := hp
        subst hp'
        exact other_step (fr := true) hk hw fun f' g' d => hN _ ⟨f', g', d, rfl⟩
      | cons a pre =>
        have := congrArg List.length e
        simp at this
    · rintro Γ ⟨f', g', d', rfl⟩
      exact k _ _ _ _ _
  · refine bF (yF e1) ?_
    subst_eqs
    rw [if_neg (show ¬ (t, h).1 = w from e1)] at k
    by_cases e2 : h = w
    · refine bT (yT e2) ?_
      subst_eqs
      refine ⟨size_ok (by simp), ?_⟩
      subst_eqs
      refine ⟨rfl, ?_⟩
      rw [if_pos (show (t, h).2 = w from e2)] at k
      refine for_pre [t] (fun o => (.int o, true)) (fun pre Γ => match pre with
        | [] => Γ = gR n l ks ws f g (some (.dat (.int w) f4)) (some (.dat (.int t) f5)) (some (.dat (.int h) f6)) d
        | _ => ∃ f' g' d', Γ = gR n l (met ks ws t).1 (met ks ws t).2 f' g' (some (.dat (.int w) f4)) (some (.dat (.int t) f5)) (some (.dat (.int h) f6)) d') rfl ?_ ?_ (by simp [frs', flt])
      · rintro pre o r Γ N e hp hN
        cases pre with
        | nil =>
          cases e
          have hp' : Γ = gR n l ks ws f g (some (.dat (.int w) f4)) (some (.dat (.int t) f5)) (some (.dat (.int h) f6)) d := hp
          subst hp'
          exact other_step (fr := true) hk hw fun f' g' d => hN _ ⟨f', g', d, rfl⟩
        | cons a pre =>
          have := congrArg List.length e
          simp at this
      · rintro Γ ⟨f', g', d', rfl⟩
        exact k _ _ _ _ _
    · refine bF (yF e2) ?_
      subst_eqs
      rw [if_neg (show ¬ (t, h).2 = w from e2)] at k
      refine ⟨size_ok (by simp), ?_⟩
      subst_eqs
      refine ⟨rfl, ?_⟩
      exact k _ _ _ _ _
theorem exp1_inv {n : Int} {l : Ar} {ks ws : List Int} {w : Int} {p : Int × Int} (h : Inv n l ks ws) (hw : w ∈ ks) (hp : p ∈ l) (hr : inR n p) : Inv n l (exp1 w (ks, ws) p).1 (exp1 w (ks, ws) p).2 := by
  unfold exp1
  split
  · rename_i e
    exact h.met ⟨hr.2.1, .step (h.rg w hw).2 (.inl (by rw [← e]; exact hp))⟩
  · split
    · rename_i e
      exact h.met ⟨hr.1, .step (h.rg w hw).2 (.inr (by rw [← e]; exact hp))⟩
    · exact h
theorem exp1_sub {ks ws : List Int} {w k : Int} {p : Int × Int} (h : k ∈ ks) : k ∈ (exp1 w (ks, ws) p).1 := by
  unfold exp1
  split
  · exact met_sub h
  · split
    · exact met_sub h
    · exact h
theorem exp1_new {ks ws : List Int} {w k : Int} {p : Int × Int} (h : k ∈ (exp1 w (ks, ws) p).1) (hw : k ∉ (exp1 w (ks, ws) p).2) : k ∈ ks ∧ k ∉ ws := by
  unfold exp1 at h hw
  split at h
  · rename_i e
    rw [if_pos e] at hw
    exact met_new h hw
  · rename_i e
    rw [if_neg e] at hw
    split at h
    · rename_i e2
      rw [if_pos e2] at hw
      exact met_new h hw
    · rename_i e2
      rw [if_neg e2] at hw
      exact ⟨h, hw⟩
theorem exp1_nb {ks ws : List Int} {w c : Int} {p : Int × Int} (h : (p.1 = w ∧ p.2 = c) ∨ (p.1 = c ∧ p.2 = w)) (hw : w ∈ ks) : c ∈ (exp1 w (ks, ws) p).1 := by
  unfold exp1
  rcases h with ⟨h1, h2⟩ | ⟨h1, h2⟩
  · rw [if_pos h1, ← h2]
    exact met_mem
  · by_cases e : p.1 = w
    · have : c = w := h1.symm.trans e
      rw [if_pos e]
      rw [this]
      exact met_sub hw
    · rw [if_neg e, if_pos h2, ← h1]
      exact met_mem
theorem exp1_todo {n : Int} {l : Ar} {ks ws : List Int} {w : Int} {p : Int × Int} (h : Inv n l (exp1 w (ks, ws) p).1 (exp1 w (ks, ws) p).2) : todo n (exp1 w (ks, ws) p).1 (exp1 w (ks, ws) p).2 ≤ todo n ks ws := by
  unfold exp1 at h ⊢
  split
  · rename_i e
    rw [if_pos e] at h
    exact met_todo h
  · rename_i e
    rw [if_neg e] at h
    split
    · rename_i e2
      rw [if_pos e2] at h
      exact met_todo h
    · exact Nat.le_refl _
theorem p_reached_in : PP fs_reached_in w_reached_in ["points", "pairs", "seen", "waiting", "here", "one", "two", "other"] := by
  rintro ds Q ex ⟨n, l, rfl, h1, h2, hr, q⟩
  show w_reached_in _ [some (.dat (.int n) false), some (.dat (arD l) false), none, none, none, none, none, none]
  subst_eqs
  refine ⟨size_ok (by simp), ?_⟩
  subst_eqs
  refine ⟨fun m Γ => ∃ ks ws f g a b c d, Γ = gR n l ks ws f g a b c d ∧ Inv n l ks ws ∧ (∀ k ∈ ks, k ∉ ws → ∀ c, nb l k c → c ∈ ks) ∧ m = todo n ks ws ∧ todo n ks ws ≤ 100, ⟨_, [1], [1], true, true, none, none, none, none, rfl, ?_, ?_, rfl, ?_⟩, ?_⟩
  · exact ⟨by simp, fun k hk => by rw [List.mem_singleton.mp hk]; exact ⟨⟨by omega, h1⟩, .refl 1⟩, by simp, fun w hw => hw⟩
  · intro k hk hn
    exact absurd hk hn
  · unfold todo
    simp
    omega
  rintro m Γ ⟨ks, ws, f, g, a, b, c, d, rfl, inv, cl, em, wl⟩
  subst_eqs
  refine ⟨size_ok (by simp), ?_⟩
  subst_eqs
  refine ⟨⟨okD_in ws, okD_in []⟩, ?_⟩
  rw [show (pd (D.lst (ws.map D.int))).eqv (pd (D.lst (List.map (fun x : D × Bool => x.1) []))) = decide (ws = []) from eqv_nil ws]
  by_cases hw : ws = []
  · refine bF (nT (decide_eq_true hw)) ?_
    subst_eqs
    refine q _ _ fun k => ?_
    rw [keysD_look, decide_eq_true_eq]
    constructor
    · exact fun hk => (inv.rg k hk).2
    · intro hk
      induction hk with
      | refl => exact inv.one
      | step _ hs ih => exact cl _ ih (by rw [hw]; simp) _ hs
  · refine bT (nF (decide_eq_false hw)) ?_
    obtain ⟨ws', w, ew⟩ : ∃ ws' w, ws = ws' ++ [w] := ⟨ws.dropLast, ws.getLast hw, (List.dropLast_concat_getLast hw).symm⟩
    subst ew
    have hwk : w ∈ ks := inv.wk w (by simp)
    subst_eqs
    rw [show (List.map D.int (ws' ++ [w])).getLast? = some (D.int w) from by rw [List.map_append]; exact List.getLast?_concat]
    subst_eqs
    rw [show (List.map D.int (ws' ++ [w])).dropLast = List.map D.int ws' from by rw [List.map_append]; exact List.dropLast_concat]
    subst_eqs
    refine ⟨rfl, ?_⟩
    have lk := inv.len
    have inv0 : Inv n l ks ws' := ⟨inv.nd, inv.rg, inv.one, fun x hx => inv.wk x (List.mem_append_left _ hx)⟩
    refine for_pre l (fun a => (prD a, false)) (fun pre Γ => ∃ ks1 ws1 f g f4 b c d, Γ = gR n l ks1 ws1 f g (some (.dat (.int w) f4)) b c d ∧ Inv n l ks1 ws1 ∧ w ∈ ks1 ∧ (∀ k ∈ ks1, k ∉ ws1 → k ≠ w → ∀ c, nb l k c → c ∈ ks1) ∧ (∀ p ∈ pre, ∀ c, ((p.1 = w ∧ p.2 = c) ∨ (p.1 = c ∧ p.2 = w)) → c ∈ ks1) ∧ todo n ks1 ws1 ≤ todo n ks ws')
      ⟨ks, ws', f, g, _, b, c, d, rfl, inv0, hwk, fun k hk hn hne c hc => cl k hk (fun z => ?_) c hc, fun p hp => (by cases hp), Nat.le_refl _⟩ ?_ ?_ (List.map_map ..)
    · rcases List.mem_append.mp z with z | z
      · exact hn z
      · exact hne (List.mem_singleton.mp z)
    · rintro pre ⟨t, h⟩ r Γ N e ⟨ks1, ws1, f, g, f4, b, c, d, rfl, i1, w1, c1, p1, t1⟩ hN
      have hm : (t, h) ∈ l := by rw [e]; simp
      have inv2 := exp1_inv i1 w1 hm (hr _ hm)
      have l1 := i1.len
      have wb : ws1.length ≤ 1000 := by
        have : todo n ks ws' ≤ todo n ks (ws' ++ [w]) := by unfold todo; simp
        unfold todo at *
        omega
      refine pair_step (P := { nx := N, ct := N, bk := _, rt := _, xe := _ }) (by omega) wb fun f' g' b c d => hN _ ⟨_, _, f', g', f4, b, c, d, rfl, inv2, exp1_sub w1, fun k hk hn hne c hc => ?_, fun p hp c hc => ?_, Nat.le_trans (exp1_todo inv2) t1⟩
      · obtain ⟨a1, a2⟩ := exp1_new hk hn
        exact exp1_sub (c1 k a1 a2 hne c hc)
      · rcases List.mem_append.mp hp with hp | hp
        · exact exp1_sub (p1 p hp c hc)
        · rw [List.mem_singleton.mp hp] at hc
          exact exp1_nb hc w1
    · rintro Γ ⟨ks1, ws1, f, g, f4, b, c, d, rfl, i1, w1, c1, p1, t1⟩
      refine ⟨todo n ks1 ws1, ?_, ks1, ws1, f, g, _, b, c, d, rfl, i1, fun k hk hn c hc => ?_, rfl, ?_⟩
      · rw [em]
        unfold todo at t1 ⊢
        simp
        omega
      · by_cases hkw : k = w
        · subst hkw
          rcases hc with hc | hc
          · exact p1 (k, c) hc c (.inl ⟨rfl, rfl⟩)
          · exact p1 (c, k) hc c (.inr ⟨rfl, rfl⟩)
        · exact c1 k hk hn hkw c hc
      · have : todo n ks ws' ≤ todo n ks (ws' ++ [w]) := by unfold todo; simp
        omega
end Q

/-! Q, part 8: check_hanging, barred_in. -/
namespace Q
open PySem L2 Y
-- the head of a wp, unfolded, through tests that are told
local macro_rules | `(tactic| subst_eqs) => `(tactic| ((with_reducible conv => whnf); repeat ((with_reducible first | refine bT rfl ?_ | refine bF rfl ?_ | refine dT rfl ?_ | refine dF rfl ?_ | refine bF (nT rfl) ?_ | refine bT (nF rfl) ?_); (with_reducible conv => whnf))))
theorem pts_len (n : Int) : (pts n).length = n.toNat := by
  unfold pts
  rw [List.length_map, List.length_range]
theorem p_check_hanging : PP fs_check_hanging w_check_hanging ["points", "pairs", "seen", "away", "point"] := by
  rintro ds Q ex ⟨n, l, rfl, h1, h2, hr, hc, q⟩
  show w_check_hanging _ [some (.dat (.int n) false), some (.dat (arD l) false), none, none, none]
  subst_eqs
  refine ⟨n, l, rfl, h1, h2, hr, fun kvs fr hk => ?_⟩
  subst_eqs
  refine ⟨⟨by decide, by decide, by omega, by omega⟩, ?_, ?_⟩
  · refine size_ok ?_
    rw [rng_pts, List.length_map, pts_len]
    omega
  · refine lc_filS (pts n) (fun k => (.int k, true)) (fun k => false) .int dep0 (fun k hkp KT KF kk => ?_) ?_ (rng_pts n)
    · have hkr := pts_mem.mp hkp
      have hs : (lookD kvs (.inl k)).isSome = true := (hk k).mpr (hc k hkr.1 hkr.2)
      subst_eqs
      refine bF (nT hs) ?_
      exact kk _ (by rfl)
    · rw [List.filter_eq_nil_iff.mpr fun _ _ => Bool.false_ne_true]
      subst_eqs
      refine ⟨size_ok (by simp), ?_⟩
      subst_eqs
      refine ⟨⟨okD_in [], okD_in []⟩, ?_⟩
      have e : (pd (D.lst (List.map D.int []))).eqv (pd (D.lst (List.map (fun x : D × Bool => x.1) []))) = true := eqv_nil []
      rw [e]
      exact q
/-! ### barred_in -/
abbrev wEnds : WE := wLc (wItL (wLook 2)) (wName 4) (wTst (wOp kEq (wLc (wItL (wLook 1)) (wTgt (wgCons (wName 5) (wgCons (wName 6) (wgNil)))) (wAnd (wTst (wOp kEq (wVar 5) (wVar 4))) (wTst (wIn (wVar 6) (wLook 2)))) (wVar 6) [5, 6]) (wLst (wNil)))) (wVar 4) [4]
theorem lens {α : Type} (l : List α) (g : α → D) : (l.map g).length = l.length := List.length_map ..
theorem ends_of {n : Int} {l : Ar} {left : List Int} {b3 : Option Sl} {ex : EX} {Q : D → Bool → En → Prop} (hl : l.length ≤ 100) (hf : left.length ≤ 100)
    (q : Q (inD (endsOf l left)) true [some (.dat (.int n) false), some (.dat (arD l) false), some (.dat (inD left) true), b3, none, none, none]) :
    wEnds ex [some (.dat (.int n) false), some (.dat (arD l) false), some (.dat (inD left) true), b3, none, none, none] Q := by
  subst_eqs
  refine ⟨size_ok (by simp; omega), ?_⟩
  refine lc_filS left (fun k => (.int k, true)) (fun k => decide (l.filter (fun a => decide (a.1 = k ∧ a.2 ∈ left)) = [])) .int dep0 (fun k hk KT KF kk => ?_) q (List.map_map ..)
  subst_eqs
  refine ⟨size_ok (by simp; omega), ?_⟩
  refine lc_filS l (fun a => (prD a, false)) (fun a => decide (a.1 = k ∧ a.2 ∈ left)) (fun a => .int a.2) dep0 (fun a ha KT2 KF2 kk2 => ?_) ?_ (List.map_map ..)
  · obtain ⟨t, h⟩ := a
    subst_eqs
    by_cases e1 : t = k
    · refine bT (yT e1) ?_
      subst_eqs
      refine ⟨⟨rfl, okD_in _⟩, ?_⟩
      rw [any_in]
      subst_eqs
      by_cases e2 : h ∈ left
      · refine bT (yT e2) ?_
        rw [if_pos (decide_eq_true ⟨e1, e2⟩)] at kk2
        subst_eqs
        exact kk2 _ (by rfl)
      · refine bF (yF e2) ?_
        rw [if_neg (by simp [e2])] at kk2
        exact kk2 _ (by rfl)
    · refine bF (yF e1) ?_
      subst_eqs
      rw [if_neg (by simp [e1])] at kk2
      exact kk2 _ (by rfl)
  · subst_eqs
    refine ⟨size_ok (by simp), ?_⟩
    subst_eqs
    have em : (l.filter fun a => decide (a.1 = k ∧ a.2 ∈ left)).map (fun a => D.int a.2) = ((l.filter fun a => decide (a.1 = k ∧ a.2 ∈ left)).map (·.2)).map .int := by rw [List.map_map]; rfl
    rw [em]
    refine ⟨⟨okD_in _, okD_in []⟩, ?_⟩
    rw [show (pd (D.lst (((l.filter fun a => decide (a.1 = k ∧ a.2 ∈ left)).map (·.2)).map .int))).eqv (pd (D.lst (List.map (fun x : D × Bool => x.1) []))) = decide ((l.filter fun a => decide (a.1 = k ∧ a.2 ∈ left)).map (·.2) = []) from eqv_nil _]
    by_cases e : l.filter (fun a => decide (a.1 = k ∧ a.2 ∈ left)) = []
    · refine bT (decide_eq_true (by rw [e]; rfl)) ?_
      rw [if_pos (decide_eq_true e)] at kk
      subst_eqs
      exact kk _ (by rfl)
    · refine bF (decide_eq_false (by simpa using e)) ?_
      rw [if_neg (by simpa using e)] at kk
      exact kk _ (by rfl)
theorem rg_pts (n : Int) : rgD 1 (n + 1 - 1).toNat = (pts n).map .int := by
  unfold rgD pts
  rw [List.map_map, Int.add_sub_cancel]
  rfl
theorem less_left (l : Ar) (left : List Int) (e : endsOf l left ≠ []) : (left.filter fun k => decide (k ∉ endsOf l left)).length < left.length := by
  obtain ⟨k, hk⟩ := List.exists_mem_of_ne_nil _ e
  have hk2 : k ∈ left := (List.mem_filter.mp hk).1
  refine Nat.lt_of_le_of_ne (List.length_filter_le ..) fun z => ?_
  have := List.length_filter_eq_length_iff.mp z k hk2
  simp at this
  exact this hk
theorem brdF_more (l : Ar) : ∀ (m : Nat) (left : List Int), left.length ≤ m → brdF l (m + 1) left = brdF l m left
  | 0, left, h => by
    have e : left = [] := List.eq_nil_of_length_eq_zero (by omega)
    subst e
    rfl
  | m + 1, left, h => by
    show (if endsOf l left = [] then left else brdF l (m + 1) _) = (if endsOf l left = [] then left else brdF l m _)
    by_cases e : endsOf l left = []
    · rw [if_pos e, if_pos e]
    · rw [if_neg e, if_neg e]
      refine brdF_more l m _ ?_
      have := less_left l left e
      omega
abbrev wTailB : WS := wSeq (wWhile (wTst (wOp kNe (wVar 3) (wLst (wNil)))) (wSeq (wSet 2 (wLc (wItL (wLook 2)) (wName 4) (wTst (wNotIn (wVar 4) (wLook 3))) (wVar 4) [4])) (wSet 3 wEnds))) (wRet (wVar 2))
theorem p_barred_in : PP fs_barred_in w_barred_in ["points", "arrows", "left", "ends", "point", "tail", "head"] := by
  rintro ds Q ex ⟨n, l, rfl, h1, h2, hl, q⟩
  show w_barred_in _ [some (.dat (.int n) false), some (.dat (arD l) false), none, none, none, none, none]
  subst_eqs
  refine ⟨⟨by decide, by decide, by omega, by omega, by omega⟩, ?_⟩
  rw [rg_pts]
  have pl := pts_len n
  refine ends_of (ex := ex) (left := pts n) (Q := fun d fr Γ' => wTailB { nx := fun x => Q D.non true, rt := fun d fr x => Q d fr, xe := ex } (st Γ' 3 (some (.dat d fr)))) hl (by omega) ?_
  subst_eqs
  refine ⟨fun m Γ => ∃ left f3, Γ = [some (.dat (.int n) false), some (.dat (arD l) false), some (.dat (inD left) true), some (.dat (inD (endsOf l left)) f3), none, none, none] ∧ left.length ≤ m ∧ m ≤ 100 ∧ brdF l m left = brd n l, ⟨n.toNat, pts n, true, rfl, by omega, by omega, rfl⟩, ?_⟩
  rintro m Γ ⟨left, f3, rfl, hm, hm2, hb⟩
  subst_eqs
  refine ⟨size_ok (by simp), ?_⟩
  subst_eqs
  refine ⟨⟨okD_in _, okD_in []⟩, ?_⟩
  rw [show (pd (D.lst ((endsOf l left).map D.int))).eqv (pd (D.lst (List.map (fun x : D × Bool => x.1) []))) = decide (endsOf l left = []) from eqv_nil _]
  by_cases e : endsOf l left = []
  · refine bF (nT (decide_eq_true e)) ?_
    subst_eqs
    have eb : brd n l = left := by
      rw [← hb]
      cases m with
      | zero => rfl
      | succ m => exact if_pos e
    rw [eb] at q
    exact q
  · refine bT (nF (decide_eq_false e)) ?_
    have lt := less_left l left e
    subst_eqs
    refine ⟨size_ok (by simp; omega), ?_⟩
    refine lc_filS left (fun k => (.int k, true)) (fun k => decide (k ∉ endsOf l left)) .int dep0 (fun k hk KT KF kk => ?_) ?_ (List.map_map ..)
    · subst_eqs
      refine ⟨⟨rfl, okD_in _⟩, ?_⟩
      rw [any_in]
      subst_eqs
      by_cases ek : k ∈ endsOf l left
      · refine bF (nT (decide_eq_true ek)) ?_
        rw [if_neg (by simpa using ek)] at kk
        exact kk _ (by rfl)
      · refine bT (nF (decide_eq_false ek)) ?_
        rw [if_pos (decide_eq_true ek)] at kk
        exact kk _ (by rfl)
    · refine ends_of (ex := ex) (left := left.filter fun k => decide (k ∉ endsOf l left)) (Q := fun d fr Γ2 => ∃ m', m' < m ∧ ∃ left f3, st Γ2 3 (some (.dat d fr)) = [some (.dat (.int n) false), some (.dat (arD l) false), some (.dat (inD left) true), some (.dat (inD (endsOf l left)) f3), none, none, none] ∧ left.length ≤ m' ∧ m' ≤ 100 ∧ brdF l m' left = brd n l) hl (by omega) ?_
      refine ⟨m - 1, by omega, _, true, rfl, by omega, by omega, ?_⟩
      rw [← hb]
      obtain ⟨m', rfl⟩ : ∃ m', m = m' + 1 := ⟨m - 1, by omega⟩
      exact (if_neg e).symm
end Q

/-! Q, part 9: the law's defs: draws, next, shuffled, may, turned. -/
namespace Q
open PySem L2 Y
-- the head of a wp, unfolded, through tests that are told
local macro_rules | `(tactic| subst_eqs) => `(tactic| ((with_reducible conv => whnf); repeat ((with_reducible first | refine bT rfl ?_ | refine bF rfl ?_ | refine dT rfl ?_ | refine dF rfl ?_ | refine bF (nT rfl) ?_ | refine bT (nF rfl) ?_); (with_reducible conv => whnf))))
abbrev PM (fs : FSM) (w : WS) (N : List Str) : Prop := ∀ os ds Q, fs os ds Q → w { nx := fun Γ => inoQ Γ fun o => Q o .non true, rt := fun d fr Γ => inoQ Γ fun o => Q o d fr } (startM N os ds)
def Bd (A : Int) (i : Int) : Prop := 0 ≤ i ∧ i < A
theorem Bd.mulW {i j A B : Int} (hi : Bd A i) (hj : Bd B j) (hA : A ≤ 2 ^ 200 := by decide) (hB : B ≤ 2 ^ 200 := by decide) : CMulW i j := by
  unfold Bd at hi hj
  exact wide_mul (a := 200) (b := 200) (by omega) (by omega) (by decide) (by decide) (by decide)
theorem Bd.mul {i j A B : Int} (hi : Bd A i) (hj : Bd B j) : Bd (A * B) (i * j) :=
  ⟨Int.mul_nonneg hi.1 hj.1, Int.lt_of_le_of_lt (Int.mul_le_mul_of_nonneg_left (Int.le_of_lt hj.2) hi.1) (Int.mul_lt_mul_of_pos_right hi.2 (Int.lt_of_le_of_lt hj.1 hj.2))⟩
theorem Bd.add {i j A B : Int} (hi : Bd A i) (hj : Bd B j) : Bd (A + B) (i + j) := by
  unfold Bd at *
  omega
theorem Bd.of {i A : Int} (h : 0 ≤ i) (k : i < A) : Bd A i := ⟨h, k⟩
theorem Bd.mod (i : Int) {A : Int} (h : 0 < A) : Bd A (i % A) := ⟨Int.emod_nonneg _ (Int.ne_of_gt h), Int.emod_lt_of_pos _ h⟩
theorem Bd.up {i A B : Int} (hi : Bd A i) (h : A ≤ B) : Bd B i := ⟨hi.1, Int.lt_of_lt_of_le hi.2 h⟩
theorem p__law_draws : PP fs__law_draws w__law_draws ["_law_cell"] := by
  rintro ds Q ex ⟨c, rfl, q⟩
  show w__law_draws _ [some (.dat (.int c) false)]
  subst_eqs
  refine ⟨⟨by decide, by decide +kernel⟩, ?_⟩
  subst_eqs
  refine ⟨⟨by decide, by decide +kernel⟩, ?_⟩
  subst_eqs
  refine ⟨⟨by decide, by decide +kernel⟩, ?_⟩
  subst_eqs
  have e : (((10 : Int) ^ (60 : Int).toNat) ^ (60 : Int).toNat) ^ (4 : Int).toNat = 10 ^ 14400 := by
    show ((10 ^ 60) ^ 60) ^ 4 = _
    rw [← Int.pow_mul, ← Int.pow_mul]
  have p : (0 : Int) < 10 ^ 14400 := Int.pow_pos (by decide)
  rw [e]
  refine ⟨p, ?_⟩
  subst_eqs
  refine ⟨⟨by decide, by decide +kernel⟩, ?_⟩
  subst_eqs
  refine ⟨size_ok (by simp), ?_⟩
  exact q _ ⟨_, _, _, rfl, Int.emod_nonneg _ (Int.ne_of_gt p), Int.emod_lt_of_pos _ p, by decide, by decide⟩
theorem p__law_next : PM fs__law_next w__law_next ["_law_draws_here", "_law_k", "_law_drawn"] := by
  rintro os ds Q ⟨k, rfl, ⟨a, b, c, rfl, a0, a1, b0, b1⟩, k1, q⟩
  show w__law_next _ [some (.ino (.lst [.int a, .int b, .bl c])), none, none]
  subst_eqs
  rw [at1]
  subst_eqs
  refine ⟨⟨_, rfl⟩, ?_⟩
  subst_eqs
  rw [show ixN [D.int a, D.int b, D.bl c].length 1 = some 1 from rfl]
  subst_eqs
  rw [show [D.int a, D.int b, D.bl c].set 1 (D.int (b + 1)) = [D.int a, D.int (b + 1), D.bl c] from rfl, at1]
  subst_eqs
  rw [show atI [D.int a, D.int (b + 1), D.bl c] 2 = some (.bl c) from rfl]
  cases c with
  | true =>
    subst_eqs
    rw [at0]
    subst_eqs
    refine ⟨⟨by decide, by decide +kernel⟩, ?_⟩
    subst_eqs
    refine ⟨(by decide : (0 : Int) < _), ?_⟩
    subst_eqs
    rw [at0]
    subst_eqs
    refine ⟨⟨by decide, by decide +kernel⟩, ?_⟩
    subst_eqs
    refine ⟨⟨by decide, by decide +kernel⟩, ?_⟩
    subst_eqs
    refine ⟨⟨_, rfl⟩, ?_⟩
    subst_eqs
    rw [show ixN [D.int a, D.int (b + 1), D.bl true].length 0 = some 0 from rfl]
    subst_eqs
    refine ⟨rfl, q _ _ ⟨_, _, _, rfl, ?_, ?_, ?_, ?_⟩⟩
    · exact Int.ediv_nonneg a0 (by decide)
    · exact Int.lt_of_le_of_lt (Int.ediv_le_self _ a0) a1
    · omega
    · omega
  | false =>
    subst_eqs
    rw [at0]
    subst_eqs
    have hm : ∀ A : Int, 0 < A → (fun _ j : Int => 0 < j) a A := fun _ h => h
    have b1 : Bd 2000000000 (b + 1) := .of (by omega) (by omega)
    have b2 : Bd 1000003 (a % 1000003) := .mod a (by decide)
    have b3 := b1.mul b1
    have b4 : Bd 7920 7919 := .of (by decide) (by decide)
    have b5 := b3.mul b4
    have b6 := b2.add b5
    have b7 := b6.add b1
    have b8 : Bd 48272 48271 := .of (by decide) (by decide)
    refine ⟨(by decide : (0 : Int) < _), ?_⟩
    subst_eqs
    refine ⟨b1.mulW b1, ?_⟩
    subst_eqs
    refine ⟨b3.mulW b4, ?_⟩
    subst_eqs
    refine ⟨b7.mulW b8, ?_⟩
    subst_eqs
    refine ⟨(by decide : (0 : Int) < _), ?_⟩
    subst_eqs
    have c1 : ∀ z : Int, Bd 2147483629 (z % 2147483629) := fun z => .mod z (by decide)
    refine ⟨(c1 _).mulW (c1 _), ?_⟩
    subst_eqs
    refine ⟨(by decide : (0 : Int) < _), ?_⟩
    subst_eqs
    have c2 : ∀ z : Int, Bd 2147483587 (z % 2147483587) := fun z => .mod z (by decide)
    have c3 : ∀ z : Int, Bd 2147483590 (z % 2147483587 + 2) := fun z => ((c2 z).add (.of (by decide) (by decide) : Bd 3 2))
    refine ⟨(c2 _).mulW (c3 _), ?_⟩
    subst_eqs
    refine ⟨(by decide : (0 : Int) < _), ?_⟩
    subst_eqs
    refine ⟨⟨by decide, by decide +kernel⟩, ?_⟩
    subst_eqs
    exact ⟨rfl, q _ _ ⟨_, _, _, rfl, a0, a1, by omega, by omega⟩⟩
theorem p__law_may : PP fs__law_may w__law_may ["_law_size", "_law_sides_here", "_law_tails", "_law_tail", "_law_head", "_law_spot"] := by
  rintro ds Q ex ⟨n, l, rfl, h1, h2, hl, q⟩
  show w__law_may _ [some (.dat (.int n) false), some (.dat (arD l) false), none, none, none, none]
  subst_eqs
  refine ⟨size_ok (by simp; omega), ?_⟩
  refine lc_mapS l (fun a => (prD a, false)) (fun a => .int a.1) dep0 (fun a ha KT KF k => ?_) ?_ (List.map_map ..)
  · obtain ⟨t, h⟩ := a
    subst_eqs
    exact k _ (by rfl)
  · subst_eqs
    have em : l.map (fun a => D.int a.1) = (l.map (·.1)).map .int := by rw [List.map_map]; rfl
    rw [em]
    refine ⟨⟨by decide, by decide, by omega, by omega⟩, ?_, ?_⟩
    · refine size_ok ?_
      rw [rng_pts, List.length_map, pts_len]
      omega
    · refine lc_filS (pts n) (fun k => (.int k, true)) (fun k => decide (k ∉ l.map fun a : Int × Int => a.1)) .int dep0 (fun k hk KT KF kk => ?_) q (rng_pts n)
      subst_eqs
      refine ⟨⟨rfl, okD_in _⟩, ?_⟩
      rw [any_in]
      subst_eqs
      by_cases e : k ∈ l.map (·.1)
      · refine bF (nT (yT e)) ?_
        rw [if_neg (by simpa using e)] at kk
        exact kk _ (by rfl)
      · refine bT (nF (yF e)) ?_
        rw [if_pos (decide_eq_true e)] at kk
        exact kk _ (by rfl)
theorem p__law_turned : PP fs__law_turned w__law_turned ["_law_sides_here", "_law_spot", "_law_tail", "_law_head"] := by
  rintro ds Q ex ⟨l, p, rfl, hl, q⟩
  show w__law_turned _ [some (.dat (arD l) false), some (.dat (.int p) false), none, none]
  subst_eqs
  refine ⟨size_ok (by simp; omega), ?_⟩
  refine lc_mapS l (fun a => (prD a, false)) (fun a => prD (if a.2 = p then (a.2, a.1) else a)) dep0 (fun a ha KT KF k => ?_) ?_ (List.map_map ..)
  · obtain ⟨t, h⟩ := a
    subst_eqs
    refine bB (fun e => ?_) fun e => ?_
    · subst_eqs
      have e' : h = p := of_decide_eq_true e
      refine ⟨size_ok (by simp), ?_⟩
      rw [if_pos e'] at k
      exact k _ (by rfl)
    · subst_eqs
      have e' : ¬ h = p := of_decide_eq_false e
      refine ⟨size_ok (by simp), ?_⟩
      rw [if_neg e'] at k
      exact k _ (by rfl)
  · have ee : (fun a : Int × Int => prD (if a.2 = p then (a.2, a.1) else a)) = prD ∘ (fun a => if a.2 = p then (a.2, a.1) else a) := rfl
    rw [ee, ← List.map_map]
    exact q
end Q

/-! Q, part 10: shuffled. -/
namespace Q
open PySem L2 Y
-- the head of a wp, unfolded, through tests that are told
local macro_rules | `(tactic| subst_eqs) => `(tactic| ((with_reducible conv => whnf); repeat ((with_reducible first | refine bT rfl ?_ | refine bF rfl ?_ | refine dT rfl ?_ | refine dF rfl ?_ | refine bF (nT rfl) ?_ | refine bT (nF rfl) ?_); (with_reducible conv => whnf))))
theorem plainAll_of : ∀ {l : List D}, (∀ d ∈ l, Y.plain d = true) → plainAll l = true
  | [], _ => rfl
  | a :: l, h => by
    unfold plainAll
    rw [h a List.mem_cons_self, plainAll_of fun d hd => h d (List.mem_cons_of_mem _ hd)]
    rfl
theorem depAll_le {n : Nat} : ∀ {l : List D}, depAll l ≤ n ↔ ∀ d ∈ l, dep d ≤ n
  | [] => by
    unfold depAll
    simp
  | a :: l => by
    unfold depAll
    have ih := depAll_le (n := n) (l := l)
    constructor
    · intro h d hd
      rcases List.mem_cons.mp hd with e | hd
      · rw [e]; omega
      · exact ih.mp (by omega) d hd
    · intro h
      have h1 := h a List.mem_cons_self
      have h2 := ih.mpr fun d hd => h d (List.mem_cons_of_mem _ hd)
      omega
theorem dep_lst (l : List D) : dep (.lst l) = depAll l + 1 := by
  show dep (.lst l) = _
  unfold dep
  rfl
theorem okD_perm {told left xs : List D} (hp : plainAll xs = true) (hd : dep (.lst xs) ≤ 60) (pm : (told ++ left).Perm xs) : okD (.lst left) = true := by
  have sub : ∀ d ∈ left, d ∈ xs := fun d h => pm.subset (List.mem_append_right _ h)
  rw [dep_lst] at hd
  have h2 := depAll_le.mp (show depAll xs ≤ 59 by omega)
  have h3 := depAll_le.mpr fun d h => h2 d (sub d h)
  unfold okD
  rw [Bool.and_eq_true]
  refine ⟨by unfold Y.plain; exact plainAll_of fun d h => plainAll_mem hp d (sub d h), decide_eq_true ?_⟩
  rw [dep_lst]
  omega
theorem eqvD_nil (l : List D) : (pd (D.lst l)).eqv (pd (D.lst (List.map (fun x : D × Bool => x.1) []))) = decide (l = []) := by
  cases l with
  | nil =>
    unfold pd pdAll
    simp [PyData.eqv, PyData.eqvAll]
  | cons a r =>
    rw [List.map_nil]
    unfold pd pdAll
    simp [PyData.eqv, PyData.eqvAll]
theorem Dr.flt {k : Nat} {os : List D} (h : Dr k os) : os.all flt = true := by
  obtain ⟨a, b, c, rfl, _⟩ := h
  rfl
theorem Dr.up {k j : Nat} {os : List D} (h : Dr k os) (l : k ≤ j) : Dr j os := by
  obtain ⟨a, b, c, e, h1, h2, h3, h4⟩ := h
  exact ⟨a, b, c, e, h1, h2, h3, by omega⟩
theorem seq_at {i : Int} {n : Nat} (h0 : 0 ≤ i) (h1 : i < n) : seqIndex? i n = some i.toNat := by
  unfold seqIndex?
  have h : ¬ i < 0 := by omega
  simp [h, h0, h1]
theorem era_perm {l : List D} {j : Nat} (h : j < l.length) : (l[j] :: l.eraseIdx j).Perm l := by
  rw [List.eraseIdx_eq_take_drop_succ]
  refine (List.perm_middle).symm.trans ?_
  rw [List.getElem_cons_drop, List.take_append_drop]
theorem p__law_shuffled : PM fs__law_shuffled w__law_shuffled ["_law_draws_here", "_law_things", "_law_left", "_law_told"] := by
  rintro os ds Q ⟨k, xs, rfl, hd, hx, hk, hp, hdp, q⟩
  show w__law_shuffled _ [some (.ino (.lst os)), some (.dat (.lst xs) false), none, none]
  subst_eqs
  refine ⟨size_ok (by simp), ?_⟩
  subst_eqs
  refine ⟨fun m Γ => ∃ os' left told f g, Γ = [some (.ino (.lst os')), some (.dat (.lst xs) false), some (.own (.lst left) f), some (.own (.lst told) g)] ∧ (told ++ left).Perm xs ∧ Dr (k + told.length) os' ∧ m = left.length, ⟨_, os, xs, [], _, _, rfl, .refl _, hd, rfl⟩, ?_⟩
  rintro m Γ ⟨os', left, told, f, g, rfl, pm, dr, em⟩
  have len := pm.length_eq
  rw [List.length_append] at len
  subst_eqs
  refine ⟨size_ok (by simp), ?_⟩
  subst_eqs
  refine ⟨⟨okD_perm hp hdp pm, okD_in []⟩, ?_⟩
  rw [eqvD_nil]
  by_cases e : left = []
  · refine bF (nT (decide_eq_true e)) ?_
    subst_eqs
    subst e
    rw [List.append_nil] at pm
    exact ⟨dr.flt, q _ _ _ (dr.up (by rw [pm.length_eq]; omega)) pm⟩
  · refine bT (nF (decide_eq_false e)) ?_
    have lp : 0 < left.length := List.length_pos_iff.mpr e
    subst_eqs
    refine ⟨trivial, ?_⟩
    subst_eqs
    refine ⟨trivial, ?_⟩
    subst_eqs
    refine ⟨trivial, ?_⟩
    subst_eqs
    refine ⟨dr.flt, k + told.length, rfl, dr, by omega, fun os'' v dr' => ?_⟩
    subst_eqs
    have bm := Bd.mod v (A := (left.length : Int)) (by omega)
    have jl : (v % (left.length : Int)).toNat < left.length := by
      have := bm.1
      have := bm.2
      omega
    refine ⟨(by omega : (0 : Int) < left.length), ?_⟩
    subst_eqs
    refine ⟨⟨by have := bm.1; omega, by have := bm.2; omega⟩, ?_⟩
    subst_eqs
    rw [seq_at bm.1 bm.2]
    subst_eqs
    rw [List.getElem?_eq_getElem jl]
    subst_eqs
    refine ⟨size_lt (by omega), ?_⟩
    refine ⟨_, ?_, os'', _, _, _, _, rfl, ?_, ?_, rfl⟩
    · rw [List.length_eraseIdx_of_lt jl]
      omega
    · rw [List.append_assoc]
      exact (List.Perm.append_left told (era_perm jl)).trans pm
    · rw [List.length_append, List.length_singleton]
      exact dr'
end Q

/-! Q, part 11: bars. -/
namespace Q
open PySem L2 Y
-- the head of a wp, unfolded, through tests that are told
local macro_rules | `(tactic| subst_eqs) => `(tactic| ((with_reducible conv => whnf); repeat ((with_reducible first | refine bT rfl ?_ | refine bF rfl ?_ | refine dT rfl ?_ | refine dF rfl ?_ | refine bF (nT rfl) ?_ | refine bT (nF rfl) ?_); (with_reducible conv => whnf))))
theorem Rch.trans {l : Ar} {a b c : Int} (h : Rch l a b) (k : Rch l b c) : Rch l a c := by
  induction k with
  | refl => exact h
  | step _ e ih => exact .step ih e
theorem Rch.symm {l : Ar} {a b : Int} (h : Rch l a b) : Rch l b a := by
  induction h with
  | refl => exact .refl _
  | step _ e ih => exact (Rch.step (.refl _) e.symm).trans ih
theorem Rch.mono {l l' : Ar} (s : ∀ p ∈ l, p ∈ l') {a b : Int} (h : Rch l a b) : Rch l' a b := by
  induction h with
  | refl => exact .refl _
  | step _ e ih => exact .step ih (e.imp (s _) (s _))
theorem map_id_of {β : Type} (f : β → β) : ∀ l : List β, (∀ x ∈ l, f x = x) → l.map f = l
  | [], _ => rfl
  | x :: l, h => by rw [List.map_cons, h x List.mem_cons_self, map_id_of f l fun y hy => h y (List.mem_cons_of_mem _ hy)]
theorem unmap {α β : Type} {g : α → β} (f : β → α) (hf : ∀ a, f (g a) = a) {ys : List β} {l : List α} (h : ys.Perm (l.map g)) : ∃ l' : List α, ys = l'.map g ∧ l'.Perm l := by
  refine ⟨ys.map f, ?_, ?_⟩
  · rw [List.map_map]
    refine (map_id_of _ ys fun y hy => ?_).symm
    obtain ⟨a, _, rfl⟩ := List.mem_map.mp (h.subset hy)
    show g (f (g a)) = g a
    rw [hf]
  · have z := h.map f
    rw [List.map_map] at z
    have e : (f ∘ g) = id := funext hf
    rwa [e, List.map_id] at z
def unI : D → Int
  | .int i => i
  | _ => 0
def unP : D → Int × Int
  | .lst [.int a, .int b] => (a, b)
  | _ => (0, 0)
theorem plain_ints (l : List Int) : plainAll (l.map .int) = true := plainAll_of fun d hd => by
  obtain ⟨a, _, rfl⟩ := List.mem_map.mp hd
  rfl
theorem dep_ints (l : List Int) : dep (inD l) ≤ 1 := by
  rw [dep_lst]
  have : depAll (l.map .int) ≤ 0 := depAll_le.mpr fun d hd => by
    obtain ⟨a, _, rfl⟩ := List.mem_map.mp hd
    exact Nat.le_refl 0
  omega
theorem plain_prs (l : Ar) : plainAll (l.map prD) = true := plainAll_of fun d hd => by
  obtain ⟨a, _, rfl⟩ := List.mem_map.mp hd
  rfl
theorem dep_pr (p : Int × Int) : dep (prD p) ≤ 1 := dep_ints [p.1, p.2]
theorem dep_prs (l : Ar) : dep (arD l) ≤ 2 := by
  rw [dep_lst]
  have : depAll (l.map prD) ≤ 1 := depAll_le.mpr fun d hd => by
    obtain ⟨a, _, rfl⟩ := List.mem_map.mp hd
    exact dep_pr a
  omega
theorem okD_ar (l : Ar) : okD (arD l) = true := by
  unfold okD
  rw [Bool.and_eq_true]
  exact ⟨by unfold Y.plain; exact plain_prs l, decide_eq_true (Nat.le_trans (dep_prs l) (by decide))⟩
theorem eqv_pr (p q : Int × Int) : (pd (prD p)).eqv (pd (prD q)) = decide (p = q) := by
  obtain ⟨a, b⟩ := p
  obtain ⟨c, d⟩ := q
  unfold pd
  simp [PyData.eqv, PyData.eqvAll, pdAll, pd]
  rfl
theorem any_pr (l : Ar) (p : Int × Int) : ((l.map prD).any fun z => (pd z).eqv (pd (prD p))) = decide (p ∈ l) := by
  induction l with
  | nil => simp
  | cons a l ih =>
    rw [List.map_cons, List.any_cons, ih, eqv_pr]
    by_cases h : a = p
    · subst h; simp
    · have h2 : ¬ p = a := fun z => h z.symm
      simp [h, h2]
theorem ix_ok {n : Nat} {i : Int} (h0 : 0 ≤ i) (h1 : i < n) : ixN n i = some i.toNat := by
  unfold ixN
  rw [if_pos h0]
  first | rw [if_pos h1] | simp [h1]
theorem atI_int {nm : List Int} {i : Int} (h0 : 0 ≤ i) (h1 : i < nm.length) : ∃ y, atI (nm.map D.int) i = some (.int y) ∧ nm[i.toNat]? = some y := by
  have hl : i.toNat < nm.length := by omega
  refine ⟨nm[i.toNat], ?_, List.getElem?_eq_getElem hl⟩
  unfold atI
  rw [List.length_map, ix_ok h0 h1]
  show (nm.map D.int)[i.toNat]? = _
  rw [List.getElem?_map, List.getElem?_eq_getElem hl]
  rfl
/-- a tree that grows along its names -/
structure Tr (nm : List Int) (j : Nat) (l : Ar) : Prop where
  len : l.length = j
  ed : ∀ p ∈ l, ∃ a b, a ≤ j ∧ b ≤ j ∧ a ≠ b ∧ nm[a]? = some p.1 ∧ nm[b]? = some p.2
  dst : l.Pairwise fun p q => ends2 p ≠ ends2 q
  con : ∀ a, a ≤ j → ∀ x y, nm[0]? = some x → nm[a]? = some y → Rch l x y
theorem Tr.zero (nm : List Int) : Tr nm 0 [] := ⟨rfl, by simp, by simp, fun a ha x y hx hy => by
  have : a = 0 := by omega
  subst this
  rw [hx] at hy
  cases hy
  exact .refl _⟩
theorem ends2_eq {p q : Int × Int} (h : ends2 p = ends2 q) : (p.1 = q.1 ∧ p.2 = q.2) ∨ (p.1 = q.2 ∧ p.2 = q.1) := by
  unfold ends2 at h
  have h1 := congrArg Prod.fst h
  have h2 := congrArg Prod.snd h
  simp only at h1 h2
  omega
theorem nodup_ix {l : List Int} (nd : l.Nodup) {a b : Nat} {x : Int} (ha : l[a]? = some x) (hb : l[b]? = some x) : a = b := by
  obtain ⟨h1, e1⟩ := List.getElem?_eq_some_iff.mp ha
  obtain ⟨h2, e2⟩ := List.getElem?_eq_some_iff.mp hb
  have pw := List.pairwise_iff_getElem.mp nd
  rcases Nat.lt_trichotomy a b with lt | eq | lt
  · exact absurd (e1.trans e2.symm) (pw a b h1 h2 lt)
  · exact eq
  · exact absurd (e2.trans e1.symm) (pw b a h2 h1 lt)
theorem Tr.grow {nm : List Int} {j : Nat} {l : Ar} (t : Tr nm j l) (nd : nm.Nodup) {x y : Int} {b : Nat} (hx : nm[j + 1]? = some x) (hb : b ≤ j) (hy : nm[b]? = some y) : Tr nm (j + 1) (l ++ [(x, y)]) where
  len := by rw [List.length_append, t.len]; rfl
  ed := fun p hp => by
    rcases List.mem_append.mp hp with h | h
    · obtain ⟨a, b, h1, h2, h3⟩ := t.ed p h
      exact ⟨a, b, by omega, by omega, h3⟩
    · rw [List.mem_singleton.mp h]
      exact ⟨j + 1, b, by omega, by omega, by omega, hx, hy⟩
  dst := by
    refine List.pairwise_append.mpr ⟨t.dst, by simp, fun p hp q hq => ?_⟩
    rw [List.mem_singleton.mp hq]
    intro e
    obtain ⟨a, c, h1, h2, h3, h4, h5⟩ := t.ed p hp
    rcases ends2_eq e with ⟨e1, e2⟩ | ⟨e1, e2⟩
    · have := nodup_ix nd h4 (by rw [e1]; exact hx)
      omega
    · have := nodup_ix nd h5 (by rw [e2]; exact hx)
      omega
  con := fun a ha u v hu hv => by
    have mono : ∀ p ∈ l, p ∈ l ++ [(x, y)] := fun p hp => List.mem_append_left _ hp
    by_cases e : a = j + 1
    · subst e
      rw [hx] at hv
      cases hv
      exact .step ((t.con b hb u y hu hy).mono mono) (.inr (by simp))
    · exact (t.con a (by omega) u v hu hv).mono mono
theorem pts_nodup (n : Int) : (pts n).Nodup := by
  unfold pts
  refine List.Pairwise.map _ (fun a b (h : a ≠ b) => ?_) List.nodup_range
  omega
theorem Tr.bars {n : Int} {nm : List Int} {l : Ar} (n1 : 1 ≤ n) (n2 : n ≤ 12) (pm : nm.Perm (pts n)) (t : Tr nm (n.toNat - 1) l) : Bars n l where
  len := by rw [t.len]; omega
  rng := fun p hp => by
    obtain ⟨a, b, h1, h2, h3, h4, h5⟩ := t.ed p hp
    refine ⟨pts_mem.mp (pm.subset (List.mem_of_getElem? h4)), pts_mem.mp (pm.subset (List.mem_of_getElem? h5)), fun e => ?_⟩
    rw [e] at h4
    have nd : nm.Nodup := pm.symm.nodup (pts_nodup n)
    exact h3 (nodup_ix nd h4 h5)
  dst := t.dst
  con := fun k h1 h2 => by
    have ln := pm.length_eq
    rw [pts_len] at ln
    have hz : 0 < nm.length := by omega
    have go : ∀ k, 1 ≤ k → k ≤ n → Rch l nm[0] k := fun k h1 h2 => by
      obtain ⟨a, ha, e⟩ := List.getElem_of_mem (pm.symm.subset (pts_mem.mpr ⟨h1, h2⟩))
      exact t.con a (by omega) _ _ (List.getElem?_eq_getElem hz) (by rw [List.getElem?_eq_getElem ha, e])
    exact (go 1 (by omega) n1).symm.trans (go k h1 h2)
theorem range_pre {N a : Nat} {pre r : List Nat} (e : List.range N = pre ++ a :: r) : a = pre.length ∧ pre.length < N := by
  have hl : pre.length < N := by
    have z := congrArg List.length e
    simp at z
    omega
  refine ⟨?_, hl⟩
  have z := congrArg (fun l => l[pre.length]?) e
  simp [hl] at z
  exact z.symm
theorem Bars.grow {n : Int} {l : Ar} (b : Bars n l) {u w : Int} (hu : 1 ≤ u ∧ u ≤ n) (hw : 1 ≤ w ∧ w ≤ n) (ne : u ≠ w) (h1 : (u, w) ∉ l) (h2 : (w, u) ∉ l) (hl : l.length < 30) : Bars n (l ++ [(u, w)]) where
  len := by rw [List.length_append, List.length_singleton]; omega
  rng := fun p hp => by
    rcases List.mem_append.mp hp with h | h
    · exact b.rng p h
    · rw [List.mem_singleton.mp h]
      exact ⟨hu, hw, ne⟩
  dst := by
    refine List.pairwise_append.mpr ⟨b.dst, by simp, fun p hp q hq => ?_⟩
    rw [List.mem_singleton.mp hq]
    intro e
    obtain ⟨p1, p2⟩ := p
    rcases ends2_eq e with ⟨e1, e2⟩ | ⟨e1, e2⟩
    · simp only at e1 e2
      subst e1 e2
      exact h1 hp
    · simp only at e1 e2
      subst e1 e2
      exact h2 hp
  con := fun k k1 k2 => (b.con k k1 k2).mono fun p hp => List.mem_append_left _ hp
theorem Bars.perm {n : Int} {l l' : Ar} (b : Bars n l) (pm : l'.Perm l) : Bars n l' where
  len := by rw [pm.length_eq]; exact b.len
  rng := fun p hp => b.rng p (pm.subset hp)
  dst := pm.symm.pairwise b.dst fun h => h.symm
  con := fun k k1 k2 => (b.con k k1 k2).mono fun p hp => pm.symm.subset hp
theorem ar_snoc (T : Ar) (p : Int × Int) : arD (T ++ [p]) = .lst (T.map prD ++ [prD p]) := by
  unfold arD
  rw [List.map_append]
  rfl
theorem p__law_bars : PM fs__law_bars w__law_bars ["_law_draws_here", "_law_size", "_law_more", "_law_names", "_law_kind", "_law_told", "_law_at", "_law_step", "_law_one", "_law_two"] := by
  rintro os ds Q ⟨k, n, m, rfl, n1, n2, m1, m2, hd, hk, q⟩
  show w__law_bars _ [some (.ino (.lst os)), some (.dat (.int n) false), some (.dat (.int m) false), none, none, none, none, none, none, none]
  have pl := pts_len n
  subst_eqs
  refine ⟨trivial, ?_⟩
  subst_eqs
  refine ⟨⟨by decide, by decide, by omega, by omega, by omega⟩, ?_⟩
  rw [rg_pts]
  subst_eqs
  refine ⟨hd.flt, k, _, rfl, hd, by rw [List.length_map]; omega, by rw [List.length_map]; omega, plain_ints _, Nat.le_trans (dep_ints _) (by decide), fun os1 ys fr hd1 pm => ?_⟩
  obtain ⟨nm, rfl, pm2⟩ := unmap unI (fun _ => rfl) pm
  rw [List.length_map, pl] at hd1
  subst_eqs
  refine ⟨trivial, ?_⟩
  subst_eqs
  refine ⟨hd1.flt, _, rfl, hd1, by omega, fun os2 kd hd2 => ?_⟩
  subst_eqs
  refine ⟨(by decide : (0 : Int) < 4), ?_⟩
  subst_eqs
  refine ⟨size_ok (by simp), ?_⟩
  subst_eqs
  refine ⟨⟨by decide, by decide, by omega, by omega⟩, ?_⟩
  refine ⟨rfl, ?_⟩
  have nd : nm.Nodup := pm2.symm.nodup (pts_nodup n)
  have ln := pm2.length_eq
  rw [pl] at ln
  refine for_pre (List.range (n - 1).toNat) (fun (i : Nat) => (.int (1 + i), true)) (fun pre Γ => ∃ os' T f a6, Γ = [some (.ino (.lst os')), some (.dat (.int n) false), some (.dat (.int m) false), some (.dat (inD nm) fr), some (.dat (.int (kd % 4)) true), some (.own (arD T) f), a6, none, none, none] ∧ Tr nm pre.length T ∧ Dr (k + n.toNat + 1 + pre.length) os') ⟨os2, [], _, _, rfl, .zero nm, hd2⟩ ?_ ?_
  · rintro pre a r Γ N e ⟨os', T, f, a6, rfl, tr, dr⟩ hN
    obtain ⟨ha, hl⟩ := range_pre e
    subst ha
    subst_eqs
    refine ⟨trivial, ?_⟩
    subst_eqs
    obtain ⟨x, ex, gx⟩ := atI_int (nm := nm) (i := 1 + (pre.length : Int)) (by omega) (by omega)
    rw [ex]
    subst_eqs
    refine ⟨trivial, ?_⟩
    subst_eqs
    refine ⟨dr.flt, _, rfl, dr, by omega, fun os3 v hd3 => ?_⟩
    subst_eqs
    refine ⟨(by omega : (0 : Int) < 1 + (pre.length : Int)), ?_⟩
    subst_eqs
    refine ⟨⟨by decide, by decide +kernel⟩, ?_⟩
    subst_eqs
    refine ⟨size_ok (by simp), ?_⟩
    subst_eqs
    have b4 := Bd.mod kd (A := 4) (by decide)
    have bv := Bd.mod v (A := 1 + (pre.length : Int)) (by omega)
    obtain ⟨w, ew, gw⟩ := atI_int (nm := [v % (1 + (pre.length : Int)), 1 + (pre.length : Int) - 1, 0, (1 + (pre.length : Int) - 1) / 2]) (i := kd % 4) b4.1 b4.2
    have bw : 0 ≤ w ∧ w < 1 + (pre.length : Int) := by
      have mw := List.mem_of_getElem? gw
      unfold Bd at bv
      simp only [List.mem_cons, List.not_mem_nil, or_false] at mw
      omega
    have ew' : atI (List.map (fun x : D × Bool => x.1) [(.int (v % (1 + (pre.length : Int))), true), (.int (1 + (pre.length : Int) - 1), true), (.int 0, true), (.int ((1 + (pre.length : Int) - 1) / 2), true)]) (kd % 4) = some (.int w) := ew
    rw [ew']
    subst_eqs
    obtain ⟨y, ey, gy⟩ := atI_int (nm := nm) (i := w) bw.1 (by omega)
    rw [ey]
    subst_eqs
    refine ⟨size_ok (by simp), ?_⟩
    subst_eqs
    have lT := tr.len
    refine ⟨size_lt (by rw [List.length_map]; omega), ?_⟩
    refine hN _ ⟨os3, T ++ [(x, y)], f && frs' [(D.int x, fr || flt (D.int x)), (D.int y, fr || flt (D.int y))], some (.dat (.int (1 + (pre.length : Int))) true), ?_, ?_, ?_⟩
    · rw [ar_snoc]
      rfl
    · rw [List.length_append, List.length_singleton]
      refine tr.grow nd (by rw [← gx]; congr 1; omega) (by omega) gy
    · rw [List.length_append, List.length_singleton]
      exact hd3
  · rintro Γ ⟨os3, T, f, a6, rfl, tr, hd3⟩
    rw [List.length_range] at tr hd3
    have br := Tr.bars n1 n2 pm2 (by rw [show n.toNat - 1 = (n - 1).toNat by omega]; exact tr)
    subst_eqs
    refine ⟨trivial, ?_⟩
    subst_eqs
    refine ⟨hd3.flt, _, rfl, hd3, by omega, fun os4 v hd4 => ?_⟩
    subst_eqs
    refine ⟨size_ok (by simp), ?_⟩
    subst_eqs
    refine ⟨trivial, ?_⟩
    subst_eqs
    refine ⟨hd4.flt, _, rfl, hd4, by omega, fun os5 v2 hd5 => ?_⟩
    subst_eqs
    refine ⟨(by decide : (0 : Int) < 4), ?_⟩
    subst_eqs
    have b4 := Bd.mod v2 (A := 4) (by decide)
    obtain ⟨w, ew, gw⟩ := atI_int (nm := [1, 3, 9, 33]) (i := v2 % 4) b4.1 b4.2
    have bw : 1 ≤ w ∧ w ≤ 33 := by
      have mw := List.mem_of_getElem? gw
      simp only [List.mem_cons, List.not_mem_nil, or_false] at mw
      omega
    have ew' : atI (List.map (fun x : D × Bool => x.1) [(.int 1, true), (.int 3, true), (.int 9, true), (.int 33, true)]) (v2 % 4) = some (.int w) := ew
    rw [ew']
    subst_eqs
    obtain ⟨c, ec, c1, c2⟩ : ∃ c : Int, (if w < m then w else m) = c ∧ 1 ≤ c ∧ c ≤ 33 := ⟨_, rfl, by split <;> omega, by split <;> omega⟩
    rw [ec]
    refine ⟨(by omega : (0 : Int) < c), ?_⟩
    subst_eqs
    have bc := Bd.mod v (A := c) (by omega)
    unfold Bd at bc
    refine ⟨⟨by omega, by omega⟩, ?_⟩
    subst_eqs
    refine ⟨rfl, ?_⟩
    refine for_pre (List.range (v % c).toNat) (fun (i : Nat) => (.int (0 + i), true)) (fun pre Γ => ∃ os' T f a6 a7 a8 a9, Γ = [some (.ino (.lst os')), some (.dat (.int n) false), some (.dat (.int m) false), some (.dat (inD nm) fr), some (.dat (.int (kd % 4)) true), some (.own (arD T) f), a6, a7, a8, a9] ∧ Bars n T ∧ Dr (k + 60 + 2 * pre.length) os') ⟨os5, T, _, _, _, _, _, rfl, br, hd5.up (by simp; omega)⟩ ?_ ?_
    · rintro pre a r Γ N e ⟨os6, T, f, a6, a7, a8, a9, rfl, br, dr⟩ hN
      obtain ⟨ha, hl⟩ := range_pre e
      subst ha
      subst_eqs
      refine ⟨trivial, ?_⟩
      subst_eqs
      refine ⟨dr.flt, _, rfl, dr, by omega, fun os7 x hd7 => ?_⟩
      subst_eqs
      refine ⟨(by omega : (0 : Int) < n), ?_⟩
      subst_eqs
      refine ⟨trivial, ?_⟩
      subst_eqs
      refine ⟨hd7.flt, _, rfl, hd7, by omega, fun os8 y hd8 => ?_⟩
      subst_eqs
      refine ⟨(by omega : (0 : Int) < n), ?_⟩
      have bx := Bd.mod x (A := n) (by omega)
      have by' := Bd.mod y (A := n) (by omega)
      unfold Bd at bx by'
      subst_eqs
      obtain ⟨u, eu⟩ : ∃ u, 1 + x % n = u := ⟨_, rfl⟩
      obtain ⟨w, ew⟩ : ∃ w, 1 + y % n = w := ⟨_, rfl⟩
      rw [eu, ew]
      have keep : ∀ a7 a8 a9, N [some (.ino (.lst os8)), some (.dat (.int n) false), some (.dat (.int m) false), some (.dat (inD nm) fr), some (.dat (.int (kd % 4)) true), some (.own (arD T) f), a6, a7, a8, a9] := fun a7 a8 a9 => hN _ ⟨os8, T, f, a6, a7, a8, a9, rfl, br, hd8.up (by simp; omega)⟩
      by_cases e1 : u = w
      · refine bF (nT (yT e1)) ?_
        subst_eqs
        exact keep _ _ _
      refine bT (nF (yF e1)) ?_
      subst_eqs
      refine ⟨size_ok (by simp), ?_⟩
      subst_eqs
      refine ⟨⟨okD_ar [(u, w)], okD_ar T⟩, ?_⟩
      subst_eqs
      by_cases e2 : (u, w) ∈ T
      · refine bF (nT ((any_pr T (u, w)).trans (yT e2))) ?_
        subst_eqs
        exact keep _ _ _
      refine bT (nF ((any_pr T (u, w)).trans (yF e2))) ?_
      subst_eqs
      refine ⟨size_ok (by simp), ?_⟩
      subst_eqs
      refine ⟨⟨okD_ar [(w, u)], okD_ar T⟩, ?_⟩
      subst_eqs
      by_cases e3 : (w, u) ∈ T
      · refine bF (nT ((any_pr T (w, u)).trans (yT e3))) ?_
        subst_eqs
        exact keep _ _ _
      refine bT (nF ((any_pr T (w, u)).trans (yF e3))) ?_
      subst_eqs
      have lt := List.length_map prD (as := T)
      by_cases e4 : T.length < 30
      · refine bT (decide_eq_true (by rw [lt]; omega) : decide (((T.map prD).length : Int) < 30) = true) ?_
        subst_eqs
        refine ⟨trivial, ?_⟩
        subst_eqs
        refine ⟨size_ok (by simp), ?_⟩
        subst_eqs
        refine ⟨size_lt (by rw [lt]; omega), ?_⟩
        refine hN _ ⟨os8, T ++ [(u, w)], f && (true && (true && true)), a6, some (.dat (.int (0 + (pre.length : Int))) true), some (.dat (.int u) true), some (.dat (.int w) true), ?_, br.grow (by omega) (by omega) e1 e2 e3 e4, hd8.up (by simp; omega)⟩
        rw [ar_snoc]
        rfl
      · refine bF (decide_eq_false (by rw [lt]; omega) : decide (((T.map prD).length : Int) < 30) = false) ?_
        subst_eqs
        exact keep _ _ _
    · rintro Γ ⟨os6, T, f, a6, a7, a8, a9, rfl, br, dr⟩
      rw [List.length_range] at dr
      have := br.len
      subst_eqs
      refine ⟨trivial, ?_⟩
      subst_eqs
      refine ⟨dr.flt, _, _, rfl, dr, by rw [List.length_map]; omega, by rw [List.length_map]; omega, plain_prs T, Nat.le_trans (dep_prs T) (by decide), fun os7 ys fr hd7 pm => ?_⟩
      obtain ⟨T', rfl, pm2⟩ := unmap unP (fun _ => rfl) pm
      rw [List.length_map] at hd7
      subst_eqs
      exact ⟨hd7.flt, q _ _ _ (hd7.up (by omega)) (br.perm pm2)⟩
end Q

/-! Q, part 12: sides. -/
namespace Q
open PySem L2 Y
-- the head of a wp, unfolded, through tests that are told
local macro_rules | `(tactic| subst_eqs) => `(tactic| ((with_reducible conv => whnf); repeat ((with_reducible first | refine bT rfl ?_ | refine bF rfl ?_ | refine dT rfl ?_ | refine dF rfl ?_ | refine bF (nT rfl) ?_ | refine bT (nF rfl) ?_); (with_reducible conv => whnf))))
/-- a comprehension over arrows that turns some, and whose turns change the slots -/
theorem lc_turn {tg : WG} {tt : WT} {te : WE} {vs : List Nat} {dp : Dep} {K : List D → Bool → En → Prop} {src : Int × Int → D × Bool} {I : Nat → En → Prop} (hd : ∀ j Γ, I j Γ → depE Γ dp) :
    ∀ (l : Ar) (Γ : En) (j : Nat) (acc : Ar) (f : Bool) (hs : ∀ a ∈ l, ∀ i Γ (KT : D → Bool → En → Prop) (KF : En → Prop), i < j + l.length → I i Γ → (∀ Γ' q fr, ends2 q = ends2 a → I (i + 1) (rs Γ Γ' vs) → KT (prD q) fr Γ') → tg (src a).1 (src a).2 (wp Γ vs) fun Γ1 => tt ex0 Γ1 fun b Γ2 => ifB b (te ex0 Γ2 KT) (KF Γ2))
      (k : ∀ l' f Γ', l'.map ends2 = l.map ends2 → I (j + l.length) Γ' → K ((acc ++ l').map prD) f Γ') (h : I j Γ), lcGo tg tt te vs dp (l.map src) (acc.map prD) f Γ K
  | [], Γ, j, acc, f, hs, k, h => by
    refine ⟨hd j Γ h, ?_⟩
    have z := k [] f Γ rfl h
    rw [List.append_nil] at z
    exact z
  | a :: l, Γ, j, acc, f, hs, k, h => by
    refine ⟨hd j Γ h, ?_⟩
    refine hs a List.mem_cons_self j Γ _ _ (by rw [List.length_cons]; omega) h fun Γ' q fr e h' => ?_
    have eq : acc.map prD ++ [prD q] = (acc ++ [q]).map prD := by rw [List.map_append]; rfl
    show lcGo tg tt te vs dp (l.map src) (acc.map prD ++ [prD q]) (f && fr) (rs Γ Γ' vs) K
    rw [eq]
    refine lc_turn hd l _ (j + 1) (acc ++ [q]) _ (fun b hb i Γ KT KF hi hI hk => hs b (List.mem_cons_of_mem _ hb) i Γ KT KF (by rw [List.length_cons]; omega) hI hk) (fun l' f Γ2 el hI => ?_) h'
    have z := k (q :: l') f Γ2 (by rw [List.map_cons, List.map_cons, el, e]) (by rw [List.length_cons, show j + (l.length + 1) = j + 1 + l.length by omega]; exact hI)
    rw [List.append_assoc]
    exact z
theorem mem_ends {l l' : Ar} (e : l'.map ends2 = l.map ends2) {p : Int × Int} (h : p ∈ l) : p ∈ l' ∨ (p.2, p.1) ∈ l' := by
  have z : ends2 p ∈ l'.map ends2 := by rw [e]; exact List.mem_map_of_mem h
  obtain ⟨q, hq, e2⟩ := List.mem_map.mp z
  obtain ⟨q1, q2⟩ := q
  obtain ⟨p1, p2⟩ := p
  rcases ends2_eq e2 with ⟨e3, e4⟩ | ⟨e3, e4⟩
  · simp only at e3 e4
    rw [← e3, ← e4]
    exact .inl hq
  · simp only at e3 e4
    rw [← e3, ← e4]
    exact .inr hq
theorem Bars.turned {n : Int} {l l' : Ar} (b : Bars n l) (n1 : 1 ≤ n) (n2 : n ≤ 12) (e : l'.map ends2 = l.map ends2) : Ok n l' where
  n1 := n1
  n12 := n2
  len := by
    have z := congrArg List.length e
    rw [List.length_map, List.length_map] at z
    rw [z]
    exact b.len
  rng := fun p hp => by
    rcases mem_ends e.symm hp with h | h
    · exact b.rng p h
    · have z := b.rng _ h
      exact ⟨z.2.1, z.1, fun q => z.2.2 q.symm⟩
  dst := by
    have z : (l.map ends2).Pairwise (· ≠ ·) := List.pairwise_map.mpr b.dst
    rw [← e] at z
    exact List.pairwise_map.mp z
  con := fun k h1 h2 => by
    have go : ∀ {a c : Int}, Rch l a c → Rch l' a c := fun h => by
      induction h with
      | refl => exact .refl _
      | step _ e2 ih =>
        refine .step ih ?_
        rcases e2 with h | h
        · exact mem_ends e h
        · exact (mem_ends e h).symm
    exact go (b.con k h1 h2)
theorem ends2_swap (a b : Int) : ends2 (b, a) = ends2 (a, b) := by
  unfold ends2
  simp only
  rw [show min b a = min a b by omega, show max b a = max a b by omega]
theorem pick_fwd (x y : D) : pickL [x, y] (some 1) = [x, y] := by
  unfold pickL
  rw [show sliceRange (sliceBounds none none (some 1) [x, y].length).1 (sliceBounds none none (some 1) [x, y].length).2.1 (sliceBounds none none (some 1) [x, y].length).2.2 = [0, 1] from (by decide : sliceRange (sliceBounds none none (some 1) 2).1 (sliceBounds none none (some 1) 2).2.1 (sliceBounds none none (some 1) 2).2.2 = [0, 1])]
  rfl
theorem pick_bwd (x y : D) : pickL [x, y] (some (-1)) = [y, x] := by
  unfold pickL
  rw [show sliceRange (sliceBounds none none (some (-1)) [x, y].length).1 (sliceBounds none none (some (-1)) [x, y].length).2.1 (sliceBounds none none (some (-1)) [x, y].length).2.2 = [1, 0] from (by decide : sliceRange (sliceBounds none none (some (-1)) 2).1 (sliceBounds none none (some (-1)) 2).2.1 (sliceBounds none none (some (-1)) 2).2.2 = [1, 0])]
  rfl
/-- a name's value, 0 where there is none -/
def nth (nm : List Int) (i : Int) : Int := (nm[i.toNat]?).getD 0
theorem atI_nth {nm : List Int} {i : Int} (h0 : 0 ≤ i) (h1 : i < nm.length) : atI (nm.map D.int) i = some (.int (nth nm i)) := by
  obtain ⟨y, e, g⟩ := atI_int h0 h1
  rw [e]
  unfold nth
  rw [g]
  rfl
theorem p__law_sides : PM fs__law_sides w__law_sides ["_law_draws_here", "_law_size", "_law_bars_here", "_law_ranks", "_law_one", "_law_two"] := by
  rintro os ds Q ⟨k, n, l, rfl, n1, n2, br, hd, hk, q⟩
  show w__law_sides _ [some (.ino (.lst os)), some (.dat (.int n) false), some (.dat (arD l) false), none, none, none]
  have ll := br.len
  subst_eqs
  refine ⟨trivial, ?_⟩
  subst_eqs
  refine ⟨hd.flt, _, rfl, hd, by omega, fun os1 v hd1 => ?_⟩
  subst_eqs
  refine ⟨(by decide : (0 : Int) < 3), ?_⟩
  subst_eqs
  by_cases e : v % 3 = 0
  · refine bT (yT e) ?_
    subst_eqs
    refine ⟨size_ok (by simp; omega), ?_⟩
    rw [show ((l.map prD).map fun d => (d, false)) = l.map fun a => (prD a, false) from List.map_map ..]
    refine lc_turn (I := fun j Γ => ∃ os', Γ = [some (.ino (.lst os')), some (.dat (.int n) false), some (.dat (arD l) false), none, none, none] ∧ Dr (k + 1 + j) os') (fun _ _ _ => dep0) l _ 0 [] true (fun a ha i Γ KT KF hi ⟨os2, eΓ, hd2⟩ kk => ?_) ?_ ⟨os1, rfl, hd1⟩
    · subst eΓ
      obtain ⟨x, y⟩ := a
      subst_eqs
      refine ⟨size_ok (by simp), ?_⟩
      subst_eqs
      refine ⟨size_ok (by simp), ?_⟩
      subst_eqs
      refine ⟨trivial, ?_⟩
      subst_eqs
      refine ⟨hd2.flt, _, rfl, hd2, by omega, fun os3 w hd3 => ?_⟩
      subst_eqs
      refine ⟨(by decide : (0 : Int) < 2), ?_⟩
      subst_eqs
      have bw := Bd.mod w (A := 2) (by decide)
      unfold Bd at bw
      by_cases e0 : w % 2 = 0
      · rw [e0, show atI (List.map (fun x : D × Bool => x.1) [(D.int 1, true), (D.int (-1), true)]) 0 = some (.int 1) from rfl]
        subst_eqs
        refine ⟨by decide, ?_⟩
        rw [show pickL (List.map (fun z : D × Bool => z.1) [(D.int (x, y).fst, (prD (x, y), false).snd || flt (D.int (x, y).fst)), (D.int (x, y).snd, (prD (x, y), false).snd || flt (D.int (x, y).snd))]) (some 1) = [D.int x, D.int y] from pick_fwd _ _]
        refine kk _ (x, y) _ rfl ?_
        exact ⟨os3, rfl, hd3⟩
      · have e1 : w % 2 = 1 := by omega
        rw [e1, show atI (List.map (fun x : D × Bool => x.1) [(D.int 1, true), (D.int (-1), true)]) 1 = some (.int (-1)) from rfl]
        subst_eqs
        refine ⟨by decide, ?_⟩
        rw [show pickL (List.map (fun z : D × Bool => z.1) [(D.int (x, y).fst, (prD (x, y), false).snd || flt (D.int (x, y).fst)), (D.int (x, y).snd, (prD (x, y), false).snd || flt (D.int (x, y).snd))]) (some (-1)) = [D.int y, D.int x] from pick_bwd _ _]
        refine kk _ (y, x) _ (ends2_swap x y) ?_
        exact ⟨os3, rfl, hd3⟩
    · rintro l' f Γ' el ⟨os3, rfl, hd3⟩
      exact ⟨hd3.flt, q _ _ _ (hd3.up (by omega)) (br.turned n1 n2 el)⟩
  · refine bF (yF e) ?_
    subst_eqs
    refine ⟨trivial, ?_⟩
    subst_eqs
    refine ⟨⟨by decide, by decide, by omega, by omega, by omega⟩, ?_⟩
    have er : rgD 0 (n - 0).toNat = ((List.range n.toNat).map fun (i : Nat) => (0 + i : Int)).map .int := by
      unfold rgD
      rw [List.map_map, Int.sub_zero]
      rfl
    rw [er]
    subst_eqs
    refine ⟨hd1.flt, _, _, rfl, hd1, by simp; omega, by simp; omega, plain_ints _, Nat.le_trans (dep_ints _) (by decide), fun os2 ys fr hd2 pm => ?_⟩
    obtain ⟨rk, rfl, pm2⟩ := unmap unI (fun _ => rfl) pm
    have lr : rk.length = n.toNat := by rw [pm2.length_eq]; simp
    rw [List.length_map, List.length_map, List.length_range] at hd2
    subst_eqs
    refine ⟨size_ok (by simp; omega), ?_⟩
    refine lc_mapS l (fun a => (prD a, false)) (fun a => prD (if nth rk (a.1 - 1) < nth rk (a.2 - 1) then a else (a.2, a.1))) dep0 (fun a ha KT KF kk => ?_) ?_ (List.map_map ..)
    · have ra := br.rng a ha
      obtain ⟨x, y⟩ := a
      have rx := ra.1
      have ry := ra.2.1
      simp only at rx ry
      subst_eqs
      rw [atI_nth (by omega) (by omega)]
      subst_eqs
      rw [atI_nth (by omega) (by omega)]
      subst_eqs
      by_cases e2 : nth rk (x - 1) < nth rk (y - 1)
      · refine bT (yT e2) ?_
        subst_eqs
        refine ⟨size_ok (by simp), ?_⟩
        rw [if_pos e2] at kk
        exact kk _ (by rfl)
      · refine bF (yF e2) ?_
        subst_eqs
        refine ⟨size_ok (by simp), ?_⟩
        rw [if_neg e2] at kk
        exact kk _ (by rfl)
    · subst_eqs
      have el : (l.map fun a => prD (if nth rk (a.1 - 1) < nth rk (a.2 - 1) then a else (a.2, a.1))) = (l.map fun a => if nth rk (a.1 - 1) < nth rk (a.2 - 1) then a else (a.2, a.1)).map prD := by
        rw [List.map_map]
        rfl
      rw [el]
      refine ⟨hd2.flt, q _ _ _ (hd2.up (by omega)) (br.turned n1 n2 ?_)⟩
      rw [List.map_map]
      refine List.map_congr_left fun a _ => ?_
      show ends2 (if _ then a else (a.2, a.1)) = ends2 a
      split
      · rfl
      · exact ends2_swap a.1 a.2
end Q

/-! Q, part 13: in_order, played. -/
namespace Q
open PySem L2 Y
-- the head of a wp, unfolded, through tests that are told
local macro_rules | `(tactic| subst_eqs) => `(tactic| ((with_reducible conv => whnf); repeat ((with_reducible first | refine bT rfl ?_ | refine bF rfl ?_ | refine dT rfl ?_ | refine dF rfl ?_ | refine bF (nT rfl) ?_ | refine bT (nF rfl) ?_); (with_reducible conv => whnf))))
theorem lc_mapQ {α : Type} {tg : WG} {tt : WT} {te : WE} {vs : List Nat} {dp : Dep} {Γ : En} {K : List D → Bool → En → Prop} {its : List (D × Bool)} (l : List α) (src : α → D × Bool) (g : α → D) (fl : α → Bool) (hd : depE Γ dp)
    (h : ∀ a ∈ l, LcIt tg tt te vs Γ (src a) (some (g a, fl a))) (k : ∀ f, K (l.map g) f Γ) (hi : its = l.map src := by rfl) : lcGo tg tt te vs dp its [] true Γ K := by
  subst hi
  refine lc_map l src _ hd h ?_
  have e : (l.filterMap fun a => some (g a, fl a)).map (·.1) = l.map g := by
    rw [List.filterMap_eq_map', List.map_map]
    rfl
  rw [e]
  exact k _
/-- the rows that the law sorts -/
abbrev t2 (p : Int × Int) : D := .tup [.lst [.int (min p.1 p.2), .int (max p.1 p.2)], prD p]
theorem t2_pd (p : Int × Int) : pd (t2 p) = .tuple [.list [.int (min p.1 p.2), .int (max p.1 p.2)], .list [.int p.1, .int p.2]] := by
  unfold pd
  rfl
abbrev L4 (a b c d a' b' c' d' : Int) : Prop := a < a' ∨ (a = a' ∧ (b < b' ∨ (b = b' ∧ (c < c' ∨ (c = c' ∧ d < d')))))
theorem lt2 (a b c d : Int) : PySem.W.dataLt (.list [.int a, .int b]) (.list [.int c, .int d]) = decide (a < c ∨ (a = c ∧ b < d)) := by
  have z := PySem.W.dataLt_ii a b c d
  unfold PySem.W.dataLt PySem.W.keyToks at z ⊢
  exact z
theorem lt22 (a b c d a' b' c' d' : Int) : PySem.W.dataLt (.tuple [.list [.int a, .int b], .list [.int c, .int d]]) (.tuple [.list [.int a', .int b'], .list [.int c', .int d']]) = decide (L4 a b c d a' b' c' d') := by
  rw [PySem.W.dataLt_pair (by simp [PySem.W.alike, PySem.W.alikeAll]) (by simp [PySem.W.alike, PySem.W.alikeAll]), lt2, lt2]
  simp only [PyData.eqv, PyData.eqvAll, Bool.and_true, Bool.and_eq_true, beq_iff_eq]
  unfold L4
  split
  · split
    · symm
      rw [decide_eq_false_iff_not]
      omega
    · rw [decide_eq_decide]
      omega
  · rw [decide_eq_decide]
    omega
theorem lt4 (a b c d a' b' c' d' : Int) : PySem.W.dataLt (.tuple [.int a, .int b, .int c, .int d]) (.tuple [.int a', .int b', .int c', .int d']) = decide (L4 a b c d a' b' c' d') := by
  have al : ∀ x y : Int, PySem.W.alike (.int x) (.int y) = true := fun _ _ => rfl
  rw [PySem.W.dataLt_tuple, PySem.W.dataLt_cons (al _ _), PySem.W.dataLt_cons (al _ _), PySem.W.dataLt_cons (al _ _), PySem.W.dataLt_cons (al _ _), show PyProof.Rows.lexLt PyProof.Rows.itemOrd (PySem.W.keyToksAll []) (PySem.W.keyToksAll []) = false from PyProof.Rows.lex_irrefl _]
  simp only [PySem.W.dataLt_int, PyData.eqv, beq_iff_eq]
  unfold L4
  repeat' split
  all_goals first | (rw [decide_eq_decide]; omega) | (symm; rw [decide_eq_false_iff_not]; omega)
theorem le_24 (p q : Int × Int) : leD (t2 p) (t2 q) = leD (t4 p) (t4 q) := by
  show (!PySem.W.dataLt (pd (t2 q)) (pd (t2 p))) = (!PySem.W.dataLt (pd (t4 q)) (pd (t4 p)))
  rw [t2_pd, t2_pd, t4_pd, t4_pd, lt22, lt4]
theorem sort_ok2 (l : Ar) (hl : l.length ≤ 100) : SortOk (l.map t2) := by
  refine ⟨?_, ?_, ?_, size_ok (by rw [List.length_map]; omega), fun d hd => ?_⟩
  · refine plainAll_of fun d hd => ?_
    obtain ⟨a, _, rfl⟩ := List.mem_map.mp hd
    rfl
  · rw [List.map_map]
    refine PySem.W.AllAlike.of fun a b => ?_
    show PySem.W.alike (pd (t2 a)) (pd (t2 b)) = true
    rw [t2_pd, t2_pd]
    rfl
  · rw [List.map_map]
    refine PySem.W.Sortable.tuples fun a => ⟨_, _, t2_pd a⟩
  · obtain ⟨a, _, rfl⟩ := List.mem_map.mp hd
    refine Nat.le_trans (depth_pd _) ?_
    show dep (.tup [.lst [.int (min a.1 a.2), .int (max a.1 a.2)], prD a]) ≤ 60
    have h1 : dep (.tup [.lst [.int (min a.1 a.2), .int (max a.1 a.2)], prD a]) = depAll [.lst [.int (min a.1 a.2), .int (max a.1 a.2)], prD a] + 1 := by
      show dep (.tup _) = _
      unfold dep
      rfl
    rw [h1]
    have h2 : depAll [.lst [.int (min a.1 a.2), .int (max a.1 a.2)], prD a] ≤ 1 := depAll_le.mpr fun d hd => by
      rcases List.mem_cons.mp hd with e | hd
      · rw [e]
        exact dep_ints [min a.1 a.2, max a.1 a.2]
      · rw [List.mem_singleton.mp hd]
        exact dep_pr a
    omega
theorem p__law_in_order : PP fs__law_in_order w__law_in_order ["_law_sides_here", "_law_side"] := by
  rintro ds Q ex ⟨l, rfl, hl, q⟩
  show w__law_in_order _ [some (.dat (arD l) false), none]
  subst_eqs
  refine ⟨size_ok (by simp; omega), ?_⟩
  refine lc_mapQ l (fun a => (prD a, false)) t2 (fun _ => false) dep0 (fun a ha KT KF k => ?_) (fun f => ?_) (List.map_map ..)
  · obtain ⟨t, h⟩ := a
    subst_eqs
    refine ⟨[t, h], rfl, by simp, fun m m1 m2 => ?_⟩
    have em := min_of m1 m2
    subst_eqs
    refine ⟨[t, h], rfl, by simp, fun m' m1' m2' => ?_⟩
    have em' := max_of m1' m2'
    subst_eqs
    refine ⟨size_ok (by simp), ?_⟩
    subst_eqs
    refine ⟨size_ok (by simp), ?_⟩
    rw [em, em']
    exact k _ (by rfl)
  · subst_eqs
    refine ⟨sort_ok2 l hl, ?_⟩
    subst_eqs
    have es : (l.map t2).mergeSort leD = (srt l).map t2 := by
      have z : (fun p q : Int × Int => leD (t4 p) (t4 q)) = fun p q => leD (t2 p) (t2 q) := funext fun p => funext fun q => (le_24 p q).symm
      unfold srt
      rw [z]
      exact (List.map_mergeSort (r := fun p q => leD (t2 p) (t2 q)) (s := leD) (f := t2) (l := l) fun a _ b _ => rfl).symm
    rw [es]
    have ls : (srt l).length = l.length := List.length_mergeSort _
    refine ⟨size_ok (by rw [List.length_map, List.length_map]; omega), ?_⟩
    refine lc_mapQ (srt l) (fun a => (t2 a, f)) prD (fun _ => f || false) dep0 (fun a ha KT KF k => ?_) (fun f => q f) (List.map_map ..)
    subst_eqs
    rw [at1]
    subst_eqs
    exact k _ (by rfl)
end Q

/-! Q, part 14: played. -/
namespace Q
open PySem L2 Y
-- the head of a wp, unfolded, through tests that are told
local macro_rules | `(tactic| subst_eqs) => `(tactic| ((with_reducible conv => whnf); repeat ((with_reducible first | refine bT rfl ?_ | refine bF rfl ?_ | refine dT rfl ?_ | refine dF rfl ?_ | refine bF (nT rfl) ?_ | refine bT (nF rfl) ?_); (with_reducible conv => whnf))))
theorem ply_snoc (l : Ar) (ts : List Int) (t : Int) : ply l (ts ++ [t]) = trn (ply l ts) t := by
  unfold ply
  rw [List.foldl_append]
  rfl
theorem legal_snoc {n t : Int} : ∀ {ts : List Int} {l : Ar}, legal n l ts → t ∈ mayI n (ply l ts) → legal n l (ts ++ [t])
  | [], _, _, h => ⟨h, trivial⟩
  | _ :: _, _, lg, h => ⟨lg.1, legal_snoc lg.2 h⟩
theorem in_snoc (ts : List Int) (t : Int) : inD (ts ++ [t]) = .lst (ts.map .int ++ [.int t]) := by
  unfold inD
  rw [List.map_append]
  rfl
theorem atI_last {α : Type} (l : List α) (x : α) : atI (l ++ [x]) (-1) = some x := by
  unfold atI ixN
  rw [if_neg (by decide), if_pos (by rw [List.length_append, List.length_singleton]; omega)]
  show (l ++ [x])[((-1 : Int) + ((l ++ [x]).length : Int)).toNat]? = _
  rw [List.length_append, List.length_singleton, show ((-1 : Int) + ((l.length + 1 : Nat) : Int)).toNat = l.length by omega]
  simp
theorem may_len (n : Int) (l : Ar) : (mayI n l).length ≤ n.toNat := by
  unfold mayI
  refine Nat.le_trans (List.length_filter_le ..) ?_
  rw [pts_len]
  exact Nat.le_refl _
theorem p__law_played : PM fs__law_played w__law_played ["_law_draws_here", "_law_size", "_law_sides_here", "_law_most", "_law_told", "_law_step", "_law_free"] := by
  rintro os ds Q ⟨k, n, l, m, rfl, n1, n2, ll, m1, m2, hd, hk, q⟩
  show w__law_played _ [some (.ino (.lst os)), some (.dat (.int n) false), some (.dat (arD l) false), some (.dat (.int m) false), none, none, none]
  subst_eqs
  refine ⟨size_ok (by simp), ?_⟩
  subst_eqs
  refine ⟨trivial, ?_⟩
  subst_eqs
  refine ⟨hd.flt, _, rfl, hd, by omega, fun os1 v hd1 => ?_⟩
  subst_eqs
  refine ⟨(by omega : (0 : Int) < m + 1), ?_⟩
  subst_eqs
  have bv := Bd.mod v (A := m + 1) (by omega)
  unfold Bd at bv
  refine ⟨⟨by omega, by omega⟩, ?_⟩
  subst_eqs
  refine ⟨rfl, ?_⟩
  refine for_pre (List.range (v % (m + 1)).toNat) (fun (i : Nat) => (.int (0 + i), true)) (fun pre Γ => ∃ os' ts f2 f4 a5 a6, Γ = [some (.ino (.lst os')), some (.dat (.int n) false), some (.dat (arD (ply l ts)) f2), some (.dat (.int m) false), some (.own (inD ts) f4), a5, a6] ∧ legal n l ts ∧ ts.length ≤ pre.length ∧ Dr (k + 1 + pre.length) os') ⟨os1, [], _, _, _, _, rfl, trivial, Nat.le_refl _, hd1⟩ ?_ ?_
  · rintro pre a r Γ N e ⟨os2, ts, f2, f4, a5, a6, rfl, lg, lt, dr⟩ hN
    obtain ⟨ha, hl⟩ := range_pre e
    subst ha
    have lp := ply_len ts l
    subst_eqs
    refine ⟨n, _, rfl, by omega, by omega, by omega, ?_⟩
    subst_eqs
    refine ⟨size_ok (by simp), ?_⟩
    subst_eqs
    refine ⟨⟨okD_in _, okD_in []⟩, ?_⟩
    rw [eqvD_nil]
    have lm := may_len n (ply l ts)
    by_cases e : (mayI n (ply l ts)).map D.int = []
    · refine bF (nT (yT e)) ?_
      subst_eqs
      exact hN _ ⟨os2, ts, f2, f4, _, _, rfl, lg, by simp; omega, dr.up (by simp)⟩
    · refine bT (nF (yF e)) ?_
      have lpos : 0 < (mayI n (ply l ts)).length := by
        refine List.length_pos_iff.mpr fun z => e ?_
        rw [z]
        rfl
      subst_eqs
      refine ⟨trivial, ?_⟩
      subst_eqs
      refine ⟨trivial, ?_⟩
      subst_eqs
      refine ⟨dr.flt, _, rfl, dr, by omega, fun os3 w hd3 => ?_⟩
      subst_eqs
      rw [List.length_map]
      refine ⟨(by omega : (0 : Int) < (mayI n (ply l ts)).length), ?_⟩
      have bw := Bd.mod w (A := ((mayI n (ply l ts)).length : Int)) (by omega)
      obtain ⟨t, et, gt⟩ := atI_int (nm := mayI n (ply l ts)) bw.1 bw.2
      subst_eqs
      rw [et]
      subst_eqs
      refine ⟨size_lt (by rw [List.length_map]; omega), ?_⟩
      subst_eqs
      rw [atI_last]
      subst_eqs
      refine ⟨_, t, rfl, by omega, ?_⟩
      subst_eqs
      refine hN _ ⟨os3, ts ++ [t], true, f4 && (true || false), some (.dat (.int (0 + (pre.length : Int))) true), some (.dat (inD (mayI n (ply l ts))) true), ?_, legal_snoc lg (List.mem_of_getElem? gt), by simp; omega, hd3.up (by simp; omega)⟩
      rw [in_snoc, ply_snoc]
      rfl
  · rintro Γ ⟨os2, ts, f2, f4, a5, a6, rfl, lg, lt, dr⟩
    rw [List.length_range] at lt dr
    subst_eqs
    refine ⟨size_ok (by simp), ?_⟩
    exact ⟨dr.flt, q _ _ _ (dr.up (by omega)) (by omega) lg⟩
end Q

/-! Q, part 15: onward. -/
namespace Q
open PySem L2 Y
-- the head of a wp, unfolded, through tests that are told
local macro_rules | `(tactic| subst_eqs) => `(tactic| ((with_reducible conv => whnf); repeat ((with_reducible first | refine bT rfl ?_ | refine bF rfl ?_ | refine dT rfl ?_ | refine dF rfl ?_ | refine bF (nT rfl) ?_ | refine bT (nF rfl) ?_); (with_reducible conv => whnf))))
def clo (l : Ar) (S : List Int) : Prop := ∀ p ∈ l, p.1 ∈ S → p.2 ∈ S
def cnt (n : Int) (S : List Int) : Nat := ((pts n).filter fun k => decide (k ∈ S)).length
structure Ow' (n : Int) (l : Ar) (k : Int) (i : Nat) (S : List Int) : Prop where
  sub : ∀ j ∈ S, Onw l k j
  seed : ∀ p ∈ l, p.1 = k → p.2 ∈ S
  grow : clo l S ∨ i ≤ cnt n S
theorem Onw.rng {n : Int} {l : Ar} {k j : Int} (hr : ∀ p ∈ l, inR n p) (h : Onw l k j) : 1 ≤ j ∧ j ≤ n := by
  cases h with
  | one h => exact (hr _ h).2.1
  | more _ h => exact (hr _ h).2.1
theorem filter_le {α : Type} {p q : α → Bool} : ∀ {l : List α}, (∀ x ∈ l, p x = true → q x = true) → (l.filter p).length ≤ (l.filter q).length
  | [], _ => Nat.le_refl _
  | a :: l, h => by
    have ih := filter_le (p := p) (q := q) (l := l) fun x hx => h x (List.mem_cons_of_mem _ hx)
    have ha := h a List.mem_cons_self
    rw [List.filter_cons, List.filter_cons]
    cases e : p a with
    | false =>
      rw [if_neg Bool.false_ne_true]
      split <;> simp <;> omega
    | true =>
      rw [if_pos rfl, if_pos (ha e)]
      simp
      exact ih
theorem filter_lt {α : Type} {p q : α → Bool} {x : α} : ∀ {l : List α}, (∀ x ∈ l, p x = true → q x = true) → x ∈ l → p x = false → q x = true → (l.filter p).length < (l.filter q).length
  | [], _, hx, _, _ => by cases hx
  | a :: l, h, hx, hp, hq => by
    have le := filter_le (p := p) (q := q) (l := l) fun x hx => h x (List.mem_cons_of_mem _ hx)
    rw [List.filter_cons, List.filter_cons]
    rcases List.mem_cons.mp hx with e | hx
    · subst e
      rw [hp, hq, if_neg Bool.false_ne_true, if_pos rfl]
      simp
      omega
    · have ih := filter_lt (p := p) (q := q) (l := l) (fun x hx => h x (List.mem_cons_of_mem _ hx)) hx hp hq
      have ha := h a List.mem_cons_self
      cases e : p a with
      | false =>
        rw [if_neg Bool.false_ne_true]
        split <;> simp <;> omega
      | true =>
        rw [if_pos rfl, if_pos (ha e)]
        simp
        exact ih
theorem Ow'.next {n : Int} {l : Ar} {k : Int} {i : Nat} {S T : List Int} (hr : ∀ p ∈ l, inR n p) (o : Ow' n l k i S) (h : ∀ j, j ∈ T ↔ j ∈ S ∨ ∃ p ∈ l, p.1 ∈ S ∧ p.2 = j) : Ow' n l k (i + 1) T where
  sub := fun j hj => by
    rcases (h j).mp hj with hj | ⟨p, hp, h1, rfl⟩
    · exact o.sub j hj
    · exact .more (o.sub _ h1) hp
  seed := fun p hp e => (h _).mpr (.inl (o.seed p hp e))
  grow := by
    by_cases c : clo l S
    · left
      intro p hp h1
      rcases (h _).mp h1 with h1 | ⟨q, hq, h2, e⟩
      · exact (h _).mpr (.inl (c p hp h1))
      · rw [← e] at h1
        exact (h _).mpr (.inl (c p hp (by rw [← e]; exact c q hq h2)))
    · right
      have g := o.grow.resolve_left c
      obtain ⟨p, hp, h1, h2⟩ : ∃ p ∈ l, p.1 ∈ S ∧ p.2 ∉ S := by
        refine Classical.byContradiction fun z => c fun p hp h1 => Classical.byContradiction fun h2 => z ⟨p, hp, h1, h2⟩
      refine Nat.lt_of_le_of_lt g ?_
      refine filter_lt (x := p.2) (fun x _ hx => ?_) (pts_mem.mpr (hr p hp).2.1) (decide_eq_false h2) (decide_eq_true ((h _).mpr (.inr ⟨p, hp, h1, rfl⟩)))
      exact decide_eq_true ((h _).mpr (.inl (of_decide_eq_true hx)))
theorem Ow'.done {n : Int} {l : Ar} {k : Int} {S : List Int} (hr : ∀ p ∈ l, inR n p) (o : Ow' n l k n.toNat S) (j : Int) : j ∈ S ↔ Onw l k j := by
  have c : clo l S := by
    rcases o.grow with c | g
    · exact c
    · intro p hp _
      have le : cnt n S ≤ (pts n).length := List.length_filter_le ..
      rw [pts_len] at le
      have e : cnt n S = (pts n).length := by rw [pts_len]; omega
      have z := List.length_filter_eq_length_iff.mp e p.2 (pts_mem.mpr (hr p hp).2.1)
      exact of_decide_eq_true z
  constructor
  · exact o.sub j
  · intro h
    induction h with
    | one h => exact o.seed _ h rfl
    | more _ h ih => exact c _ h ih
theorem snd_in (l : Ar) : inD (l.map (·.2)) = .lst (l.map fun a => D.int a.2) := by
  unfold inD
  rw [List.map_map]
  rfl
theorem p__law_onward : PP fs__law_onward w__law_onward ["_law_size", "_law_sides_here", "_law_spot", "_law_seen", "_law_step", "_law_tail", "_law_head"] := by
  rintro ds Q ex ⟨n, l, k, rfl, n1, n2, ll, hr, q⟩
  show w__law_onward _ [some (.dat (.int n) false), some (.dat (arD l) false), some (.dat (.int k) false), none, none, none, none]
  subst_eqs
  refine ⟨size_ok (by simp; omega), ?_⟩
  refine lc_filS l (fun a => (prD a, false)) (fun a => decide (a.1 = k)) (fun a => .int a.2) dep0 (fun a ha KT KF kk => ?_) ?_ (List.map_map ..)
  · obtain ⟨t, h⟩ := a
    subst_eqs
    by_cases e : t = k
    · refine bT (yT e) ?_
      rw [if_pos (decide_eq_true e)] at kk
      subst_eqs
      exact kk _ (by rfl)
    · refine bF (yF e) ?_
      rw [if_neg (by simpa using e)] at kk
      subst_eqs
      exact kk _ (by rfl)
  subst_eqs
  refine ⟨⟨by omega, by omega⟩, ?_⟩
  subst_eqs
  refine ⟨rfl, ?_⟩
  refine for_pre (List.range n.toNat) (fun (i : Nat) => (.int (0 + i), true)) (fun pre Γ => ∃ S a4, Γ = [some (.dat (.int n) false), some (.dat (arD l) false), some (.dat (.int k) false), some (.dat (inD S) true), a4, none, none] ∧ S.length ≤ 30 ∧ Ow' n l k pre.length S) ⟨(l.filter fun a => decide (a.1 = k)).map (·.2), none, ?_, ?_, ?_⟩ ?_ ?_
  · rw [snd_in]
  · rw [List.length_map]
    exact Nat.le_trans (List.length_filter_le ..) ll
  · refine ⟨fun j hj => ?_, fun p hp e => ?_, .inr (Nat.zero_le _)⟩
    · obtain ⟨p, hp, rfl⟩ := List.mem_map.mp hj
      rw [List.mem_filter] at hp
      obtain ⟨p1, p2⟩ := p
      have e : p1 = k := of_decide_eq_true hp.2
      rw [← e]
      exact .one hp.1
    · exact List.mem_map.mpr ⟨p, List.mem_filter.mpr ⟨hp, decide_eq_true e⟩, rfl⟩
  · rintro pre a r Γ N e ⟨S, a4, rfl, lS, o⟩ hN
    subst_eqs
    refine ⟨size_ok (by simp; omega), ?_⟩
    refine lc_filS l (fun a => (prD a, false)) (fun a => decide (a.1 ∈ S)) (fun a => .int a.2) dep0 (fun a ha KT KF kk => ?_) ?_ (List.map_map ..)
    · obtain ⟨t, h⟩ := a
      subst_eqs
      refine ⟨⟨rfl, okD_in _⟩, ?_⟩
      rw [any_in]
      subst_eqs
      by_cases e : t ∈ S
      · refine bT (yT e) ?_
        rw [if_pos (decide_eq_true e)] at kk
        subst_eqs
        exact kk _ (by rfl)
      · refine bF (yF e) ?_
        rw [if_neg (by simpa using e)] at kk
        subst_eqs
        exact kk _ (by rfl)
    · subst_eqs
      have lf : (l.filter fun a => decide (a.1 ∈ S)).length ≤ l.length := List.length_filter_le ..
      refine ⟨size_ok (by rw [List.length_map, List.length_map]; omega), ?_⟩
      subst_eqs
      refine ⟨S ++ (l.filter fun a => decide (a.1 ∈ S)).map (·.2), ?_, ?_, fun ms srt_ mem => ?_⟩
      · rw [List.map_append, List.map_map]
        rfl
      · rw [List.length_append, List.length_map]
        omega
      · have o2 : Ow' n l k (pre.length + 1) ms := o.next hr fun j => by
          rw [mem, List.mem_append, List.mem_map]
          constructor
          · rintro (h | ⟨p, hp, e⟩)
            · exact .inl h
            · rw [List.mem_filter] at hp
              exact .inr ⟨p, hp.1, of_decide_eq_true hp.2, e⟩
          · rintro (h | ⟨p, hp, h1, e⟩)
            · exact .inl h
            · exact .inr ⟨p, List.mem_filter.mpr ⟨hp, decide_eq_true h1⟩, e⟩
        have nd : ms.Nodup := srt_.imp fun h => by omega
        have lm := few 12 ms nd fun j hj => by
          have := (o2.sub j hj).rng hr
          omega
        refine hN _ ⟨ms, _, rfl, by omega, ?_⟩
        rw [List.length_append, List.length_singleton]
        exact o2
  · rintro Γ ⟨S, a4, rfl, lS, o⟩
    rw [List.length_range] at o
    subst_eqs
    exact q S (by omega) (o.done hr)
end Q

/-! Q, part 16: the law's barred. -/
namespace Q
open PySem L2 Y
-- the head of a wp, unfolded, through tests that are told
local macro_rules | `(tactic| subst_eqs) => `(tactic| ((with_reducible conv => whnf); repeat ((with_reducible first | refine bT rfl ?_ | refine bF rfl ?_ | refine dT rfl ?_ | refine dF rfl ?_ | refine bF (nT rfl) ?_ | refine bT (nF rfl) ?_); (with_reducible conv => whnf))))
/-- k leads to a ring -/
def good (l : Ar) (k : Int) : Prop := ∃ r, Onw l k r ∧ Onw l r r
theorem Onw.cons {l : Ar} {a b c : Int} (h : (a, b) ∈ l) (k : Onw l b c) : Onw l a c := by
  induction k with
  | one h2 => exact .more (.one h) h2
  | more _ h2 ih => exact .more ih h2
theorem Onw.head {l : Ar} {a c : Int} (k : Onw l a c) : ∃ b, (a, b) ∈ l ∧ (b = c ∨ Onw l b c) := by
  induction k with
  | one h => exact ⟨_, h, .inl rfl⟩
  | more _ h2 ih =>
    obtain ⟨b, hb, e | e⟩ := ih
    · subst e
      exact ⟨_, hb, .inr (.one h2)⟩
    · exact ⟨_, hb, .inr (.more e h2)⟩
theorem good.next {l : Ar} {k : Int} (g : good l k) : ∃ j, (k, j) ∈ l ∧ good l j := by
  obtain ⟨r, h1, h2⟩ := g
  obtain ⟨b, hb, e | e⟩ := h1.head
  · subst e
    exact ⟨b, hb, b, h2, h2⟩
  · exact ⟨b, hb, r, e, h2⟩
theorem mem_ends_of {l : Ar} {left : List Int} {k : Int} : k ∈ endsOf l left ↔ k ∈ left ∧ ∀ p ∈ l, p.1 = k → p.2 ∉ left := by
  unfold endsOf
  rw [List.mem_filter, decide_eq_true_eq, List.filter_eq_nil_iff]
  constructor
  · rintro ⟨h1, h2⟩
    exact ⟨h1, fun p hp e hm => h2 p hp (decide_eq_true ⟨e, hm⟩)⟩
  · rintro ⟨h1, h2⟩
    exact ⟨h1, fun p hp e => h2 p hp (of_decide_eq_true e).1 (of_decide_eq_true e).2⟩
theorem all_onw {n : Int} {l : Ar} (hr : ∀ p ∈ l, inR n p) (k : Int) : ∃ T : List Int, ∀ x, x ∈ T ↔ Onw l k x := by
  have cl := Classical.propDecidable
  refine ⟨(pts n).filter fun x => @decide (Onw l k x) (cl _), fun x => ?_⟩
  rw [List.mem_filter]
  constructor
  · exact fun h => @of_decide_eq_true _ (cl _) h.2
  · exact fun h => ⟨pts_mem.mpr (h.rng hr), @decide_eq_true _ (cl _) h⟩
/-- where all lead on, all lead to a ring -/
theorem all_good {n : Int} {l : Ar} {left : List Int} (hr : ∀ p ∈ l, inR n p) (he : endsOf l left = []) : ∀ (N : Nat) (S : List Int) (k : Int), (∀ j, j ∈ S ↔ Onw l k j) → cnt n S ≤ N → k ∈ left → good l k := by
  have step : ∀ k ∈ left, ∃ j ∈ left, (k, j) ∈ l := fun k hk => by
    refine Classical.byContradiction fun z => ?_
    have : k ∈ endsOf l left := mem_ends_of.mpr ⟨hk, fun p hp e hm => z ⟨p.2, hm, by rw [← e]; exact hp⟩⟩
    rw [he] at this
    cases this
  intro N
  induction N with
  | zero =>
    intro S k hS hc hk
    obtain ⟨j, hj, hl⟩ := step k hk
    have hjS := (hS j).mpr (.one hl)
    have : j ∈ (pts n).filter fun x => decide (x ∈ S) := List.mem_filter.mpr ⟨pts_mem.mpr (hr _ hl).2.1, decide_eq_true hjS⟩
    have := List.length_pos_of_mem this
    unfold cnt at hc
    omega
  | succ N ih =>
    intro S k hS hc hk
    obtain ⟨j, hj, hl⟩ := step k hk
    by_cases hjj : Onw l j j
    · exact ⟨j, .one hl, hjj⟩
    · obtain ⟨T, hT⟩ := all_onw hr j
      have lt : cnt n T < cnt n S := by
        refine filter_lt (x := j) (fun x _ hx => ?_) (pts_mem.mpr (hr _ hl).2.1) (decide_eq_false fun h => hjj ((hT j).mp h)) (decide_eq_true ((hS j).mpr (.one hl)))
        exact decide_eq_true ((hS x).mpr (.cons hl ((hT x).mp (of_decide_eq_true hx))))
      obtain ⟨r, h1, h2⟩ := ih T j hT (by omega) hj
      exact ⟨r, .cons hl h1, h2⟩
theorem brdF_good {n : Int} {l : Ar} (hr : ∀ p ∈ l, inR n p) {p : Int → Bool} (hp : ∀ k, 1 ≤ k → k ≤ n → (p k = true ↔ good l k)) : ∀ (m : Nat) (left : List Int), left.length ≤ m → (∀ k ∈ left, 1 ≤ k ∧ k ≤ n) → (∀ k, 1 ≤ k → k ≤ n → good l k → k ∈ left) → brdF l m left = left.filter p
  | 0, left, hm, _, _ => by
    have e : left = [] := List.eq_nil_of_length_eq_zero (by omega)
    subst e
    rfl
  | m + 1, left, hm, hs, hg => by
    show (if endsOf l left = [] then left else brdF l m (left.filter fun k => decide (k ∉ endsOf l left))) = _
    by_cases e : endsOf l left = []
    · rw [if_pos e]
      symm
      refine List.filter_eq_self.mpr fun k hk => ?_
      have hk2 := hs k hk
      refine (hp k hk2.1 hk2.2).mpr ?_
      obtain ⟨T, hT⟩ := all_onw hr k
      exact all_good hr e _ T k hT (Nat.le_refl _) hk
    · rw [if_neg e]
      have lt := less_left l left e
      have out : ∀ k ∈ left, good l k → k ∉ endsOf l left := fun k hk g hm => by
        obtain ⟨j, hj, g2⟩ := g.next
        have hj2 := (hr _ hj).2.1
        exact (mem_ends_of.mp hm).2 _ hj rfl (hg j hj2.1 hj2.2 g2)
      rw [brdF_good hr hp m _ (by omega) (fun k hk => hs k (List.mem_filter.mp hk).1) fun k h1 h2 g => List.mem_filter.mpr ⟨hg k h1 h2 g, decide_eq_true (out k (hg k h1 h2 g) g)⟩, List.filter_filter]
      refine List.filter_congr fun k hk => ?_
      have hk2 := hs k hk
      cases ep : p k with
      | false => rfl
      | true => rw [decide_eq_true (out k hk ((hp k hk2.1 hk2.2).mp ep))]; rfl
theorem brd_good {n : Int} {l : Ar} (hr : ∀ p ∈ l, inR n p) {p : Int → Bool} (hp : ∀ k, 1 ≤ k → k ≤ n → (p k = true ↔ good l k)) : brd n l = (pts n).filter p :=
  brdF_good hr hp _ _ (by rw [pts_len]; exact Nat.le_refl _) (fun k hk => pts_mem.mp hk) fun k h1 h2 _ => pts_mem.mpr ⟨h1, h2⟩
/-- a comprehension whose items are told by a relation -/
theorem lc_rel {α β : Type} {tg : WG} {tt : WT} {te : WE} {vs : List Nat} {dp : Dep} {Γ : En} {K : List D → Bool → En → Prop} {its : List (D × Bool)} (l : List α) (src : α → D × Bool) (g : β → D) (R : α → β → Prop) (hd : depE Γ dp)
    (h : ∀ a ∈ l, ∀ (KT : D → Bool → En → Prop) (KF : En → Prop), (∀ Γ' b, R a b → rs Γ Γ' vs = Γ → KT (g b) true Γ') → tg (src a).1 (src a).2 (wp Γ vs) fun Γ1 => tt ex0 Γ1 fun b Γ2 => ifB b (te ex0 Γ2 KT) (KF Γ2))
    (k : ∀ bs : List β, bs.length = l.length → (∀ (i : Nat) (a : α) (b : β), l[i]? = some a → bs[i]? = some b → R a b) → K (bs.map g) true Γ) (hi : its = l.map src := by rfl) : lcGo tg tt te vs dp its [] true Γ K := by
  subst hi
  have main : ∀ (r pre : List α) (acc : List β), l = pre ++ r → acc.length = pre.length → (∀ (i : Nat) (a : α) (b : β), pre[i]? = some a → acc[i]? = some b → R a b) → lcGo tg tt te vs dp (r.map src) (acc.map g) true Γ K := by
    intro r
    induction r with
    | nil =>
      intro pre acc e el hR
      rw [List.append_nil] at e
      subst e
      exact ⟨hd, k acc el hR⟩
    | cons a r ih =>
      intro pre acc e el hR
      refine ⟨hd, ?_⟩
      refine h a (by rw [e]; simp) _ _ fun Γ' b hab er => ?_
      show lcGo tg tt te vs dp (r.map src) (acc.map g ++ [g b]) (true && true) (rs Γ Γ' vs) K
      rw [er, show acc.map g ++ [g b] = (acc ++ [b]).map g from by rw [List.map_append]; rfl]
      refine ih (pre ++ [a]) (acc ++ [b]) (by rw [e, List.append_assoc]; rfl) (by rw [List.length_append, List.length_append, el]; rfl) fun i x y hx hy => ?_
      by_cases hi : i < pre.length
      · rw [List.getElem?_append_left hi] at hx
        rw [List.getElem?_append_left (by omega)] at hy
        exact hR i x y hx hy
      · rw [List.getElem?_append_right (by omega)] at hx
        rw [List.getElem?_append_right (by omega)] at hy
        rw [el] at hy
        cases q : i - pre.length with
        | zero =>
          rw [q] at hx hy
          cases hx
          cases hy
          exact hab
        | succ j =>
          rw [q] at hx
          cases hx
  exact main l [] [] rfl rfl fun i a b hx _ => by cases hx
theorem atI_map {α : Type} (g : α → D) {L : List α} {i : Int} (h0 : 0 ≤ i) (h1 : i < L.length) : ∃ y, atI (L.map g) i = some (g y) ∧ L[i.toNat]? = some y := by
  have hl : i.toNat < L.length := by omega
  refine ⟨L[i.toNat], ?_, List.getElem?_eq_getElem hl⟩
  unfold atI
  rw [List.length_map, ix_ok h0 h1]
  show (L.map g)[i.toNat]? = _
  rw [List.getElem?_map, List.getElem?_eq_getElem hl]
  rfl
theorem pts_at {n : Int} {i : Nat} (h : i < n.toNat) : (pts n)[i]? = some (1 + (i : Int)) := by
  unfold pts
  rw [List.getElem?_map, List.getElem?_range h]
  rfl
theorem p__law_barred : PP fs__law_barred w__law_barred ["_law_size", "_law_sides_here", "_law_onward_here", "_law_rings", "_law_spot", "_law_mate"] := by
  rintro ds Q ex ⟨n, l, rfl, n1, n2, ll, hr, q⟩
  show w__law_barred _ [some (.dat (.int n) false), some (.dat (arD l) false), none, none, none, none]
  have pl := pts_len n
  subst_eqs
  refine ⟨⟨by decide, by decide, by omega, by omega⟩, ?_, ?_⟩
  · refine size_ok ?_
    rw [rng_pts, List.length_map, pl]
    omega
  refine lc_rel (pts n) (fun k => (.int k, true)) inD (fun k ms => ms.length ≤ 100 ∧ ∀ j, j ∈ ms ↔ Onw l k j) dep0 (fun k hk KT KF kk => ?_) (fun L eL hL => ?_) (rng_pts n)
  · subst_eqs
    refine ⟨n, l, k, rfl, n1, n2, ll, hr, fun ms h1 h2 => ?_⟩
    exact kk _ ms ⟨h1, h2⟩ (by rfl)
  have hX : ∃ X : Int → List Int, ∀ k, 1 ≤ k → k ≤ n → atI (L.map inD) (k - 1) = some (inD (X k)) ∧ ∀ j, j ∈ X k ↔ Onw l k j := by
    refine ⟨fun k => (L[(k - 1).toNat]?).getD [], fun k k1 k2 => ?_⟩
    obtain ⟨y, e, g⟩ := atI_map inD (L := L) (i := k - 1) (by omega) (by omega)
    rw [e]
    simp only [g, Option.getD_some]
    have z := hL (k - 1).toNat (1 + ((k - 1).toNat : Int)) y (pts_at (by omega)) g
    rw [show 1 + ((k - 1).toNat : Int) = k by omega] at z
    exact ⟨trivial, z.2⟩
  obtain ⟨X, hX⟩ := hX
  have bp : brd n l = (pts n).filter fun k => decide (((pts n).filter fun r => decide (r ∈ X r)).filter (fun m => decide (m ∈ X k)) ≠ []) := by
    refine brd_good hr fun k k1 k2 => ?_
    rw [decide_eq_true_eq, ne_eq, List.filter_eq_nil_iff]
    constructor
    · intro h
      refine Classical.byContradiction fun z => h fun r hm e => z ?_
      rw [List.mem_filter, decide_eq_true_eq] at hm
      have hr2 := pts_mem.mp hm.1
      exact ⟨r, ((hX k k1 k2).2 r).mp (of_decide_eq_true e), ((hX r hr2.1 hr2.2).2 r).mp hm.2⟩
    · rintro ⟨r, h1, h2⟩ z
      have hr2 := h1.rng hr
      exact z r (List.mem_filter.mpr ⟨pts_mem.mpr hr2, decide_eq_true (((hX r hr2.1 hr2.2).2 r).mpr h2)⟩) (decide_eq_true (((hX k k1 k2).2 r).mpr h1))
  rw [bp] at q
  subst_eqs
  refine ⟨⟨by decide, by decide, by omega, by omega⟩, ?_, ?_⟩
  · refine size_ok ?_
    rw [rng_pts, List.length_map, pl]
    omega
  refine lc_filS (pts n) (fun k => (.int k, true)) (fun r => decide (r ∈ X r)) .int dep0 (fun k hk KT KF kk => ?_) ?_ (rng_pts n)
  · have hk2 := pts_mem.mp hk
    subst_eqs
    rw [(hX k hk2.1 hk2.2).1]
    subst_eqs
    refine ⟨⟨rfl, okD_in _⟩, ?_⟩
    rw [any_in]
    subst_eqs
    by_cases e : k ∈ X k
    · refine bT (yT e) ?_
      rw [if_pos (decide_eq_true e)] at kk
      subst_eqs
      exact kk _ (by rfl)
    · refine bF (yF e) ?_
      rw [if_neg (by simpa using e)] at kk
      subst_eqs
      exact kk _ (by rfl)
  have lr : ((pts n).filter fun r => decide (r ∈ X r)).length ≤ (pts n).length := List.length_filter_le ..
  subst_eqs
  refine ⟨⟨by decide, by decide, by omega, by omega⟩, ?_, ?_⟩
  · refine size_ok ?_
    rw [rng_pts, List.length_map, pl]
    omega
  refine lc_filS (pts n) (fun k => (.int k, true)) (fun k => decide (((pts n).filter fun r => decide (r ∈ X r)).filter (fun m => decide (m ∈ X k)) ≠ [])) .int dep0 (fun k hk KT KF kk => ?_) q (rng_pts n)
  have hk2 := pts_mem.mp hk
  subst_eqs
  refine ⟨size_ok (by rw [List.length_map, List.length_map]; omega), ?_⟩
  refine lc_filS ((pts n).filter fun r => decide (r ∈ X r)) (fun m => (.int m, true)) (fun m => decide (m ∈ X k)) .int dep0 (fun m hm KT2 KF2 kk2 => ?_) ?_ (List.map_map ..)
  · subst_eqs
    rw [(hX k hk2.1 hk2.2).1]
    subst_eqs
    refine ⟨⟨rfl, okD_in _⟩, ?_⟩
    rw [any_in]
    subst_eqs
    by_cases e : m ∈ X k
    · refine bT (yT e) ?_
      rw [if_pos (decide_eq_true e)] at kk2
      subst_eqs
      exact kk2 _ (by rfl)
    · refine bF (yF e) ?_
      rw [if_neg (by simpa using e)] at kk2
      subst_eqs
      exact kk2 _ (by rfl)
  · subst_eqs
    refine ⟨size_ok (by simp), ?_⟩
    subst_eqs
    refine ⟨⟨okD_in _, okD_in []⟩, ?_⟩
    rw [eqvD_nil]
    by_cases e : ((pts n).filter fun r => decide (r ∈ X r)).filter (fun m => decide (m ∈ X k)) = []
    · refine bF (nT (decide_eq_true (by rw [e]; rfl))) ?_
      rw [if_neg (by simpa using e)] at kk
      subst_eqs
      exact kk _ (by rfl)
    · refine bT (nF (decide_eq_false (by simpa using e))) ?_
      rw [if_pos (decide_eq_true e)] at kk
      subst_eqs
      exact kk _ (by rfl)
end Q

/-! Q, part 17: texts of nets. -/
namespace Q
open PySem L2 Y
mutual
def smal : D → Bool
  | .int i => decide (0 ≤ i ∧ i ≤ 12)
  | .lst xs => smalAll xs
  | _ => false
def smalAll : List D → Bool
  | [] => true
  | x :: xs => smal x && smalAll xs
end
mutual
def szD : D → Nat
  | .lst xs => 2 + szAll xs
  | _ => 2
def szAll : List D → Nat
  | [] => 0
  | x :: xs => szD x + 2 + szAll xs
end
theorem shown_small {i : Int} (h : 0 ≤ i ∧ i ≤ 12) : (PyData.shown (.int i)).length ≤ 2 ∧ (PyData.showable (.int i)) = true := by
  have e : i = 0 ∨ i = 1 ∨ i = 2 ∨ i = 3 ∨ i = 4 ∨ i = 5 ∨ i = 6 ∨ i = 7 ∨ i = 8 ∨ i = 9 ∨ i = 10 ∨ i = 11 ∨ i = 12 := by omega
  rcases e with e | e | e | e | e | e | e | e | e | e | e | e | e <;> subst e <;> exact ⟨by unfold PyData.shown; decide +kernel, by unfold PyData.showable; decide⟩
theorem text_le : ∀ (ts : List Str) (k : Nat) (acc : Str), (textFrom k acc ts).length ≤ acc.length + (ts.map (·.length)).sum + ts.length * 2
  | [], k, acc => by
    show acc.length ≤ _
    simp
  | t :: ts, k, acc => by
    have z := text_le ts (k + 1) (acc ++ (if k > 0 then ", " else "" : String) ++ t)
    have e : (acc ++ (if k > 0 then ", " else "" : String) ++ t).length = acc.length + (if k > 0 then 2 else 0) + t.length := by
      rw [strLen_append, strLen_append]
      split <;> rfl
    rw [e] at z
    show (textFrom (k + 1) _ ts).length ≤ _
    rw [List.map_cons, List.sum_cons, List.length_cons]
    have b2 : (if k > 0 then 2 else 0 : Nat) ≤ 2 := by split <;> omega
    omega
theorem listText_len (ts : List Str) : (listText ts).length ≤ (ts.map (·.length)).sum + ts.length * 2 + 2 := by
  unfold listText
  have z := text_le ts 0 "["
  rw [strLen_append]
  have e1 : (("[" : String) : Str).length = 1 := rfl
  have e2 : (("]" : String) : Str).length = 1 := rfl
  omega
mutual
theorem shown_sz : ∀ d : D, smal d = true → (pd d).shown.length ≤ szD d ∧ (pd d).showable = true
  | .int i, h => by
    unfold smal at h
    have z := shown_small (of_decide_eq_true h)
    unfold pd szD
    exact z
  | .lst xs, h => by
    unfold smal at h
    have z := shown_szAll xs h
    have w := listText_len (PyData.shownAll (pdAll xs))
    unfold pd szD PyData.shown PyData.showable
    exact ⟨by omega, z.2⟩
  | .non, h => by unfold smal at h; cases h
  | .bl _, h => by unfold smal at h; cases h
  | .str _, h => by unfold smal at h; cases h
  | .tup _, h => by unfold smal at h; cases h
  | .dk _, h => by unfold smal at h; cases h
  | .dt _, h => by unfold smal at h; cases h
theorem shown_szAll : ∀ ds : List D, smalAll ds = true → ((PyData.shownAll (pdAll ds)).map (·.length)).sum + (PyData.shownAll (pdAll ds)).length * 2 ≤ szAll ds ∧ PyData.showableAll (pdAll ds) = true
  | [], _ => by
    unfold pdAll PyData.shownAll szAll PyData.showableAll
    exact ⟨Nat.le_refl _, rfl⟩
  | d :: ds, h => by
    unfold smalAll at h
    rw [Bool.and_eq_true] at h
    have z := shown_sz d h.1
    have w := shown_szAll ds h.2
    unfold pdAll PyData.shownAll szAll PyData.showableAll
    rw [List.map_cons, List.sum_cons, List.length_cons, z.2, w.2]
    exact ⟨by omega, rfl⟩
end
theorem smal_of : ∀ {l : List D}, (∀ d ∈ l, smal d = true) → smalAll l = true
  | [], _ => rfl
  | a :: l, h => by
    unfold smalAll
    rw [h a List.mem_cons_self, smal_of fun d hd => h d (List.mem_cons_of_mem _ hd)]
    rfl
theorem szAll_le {b : Nat} : ∀ {l : List D}, (∀ d ∈ l, szD d ≤ b) → szAll l ≤ l.length * (b + 2)
  | [], _ => Nat.zero_le _
  | a :: l, h => by
    unfold szAll
    have h1 := h a List.mem_cons_self
    have h2 := szAll_le fun d hd => h d (List.mem_cons_of_mem _ hd)
    rw [List.length_cons, Nat.succ_mul]
    omega
theorem sz_lst (l : List D) : szD (.lst l) = 2 + szAll l := by
  show szD (.lst l) = _
  unfold szD
  rfl
theorem smal_lst (l : List D) : smal (.lst l) = smalAll l := by
  show smal (.lst l) = _
  unfold smal
  rfl
/-- what repr asks, of small data -/
theorem repr_ok {d : D} (h1 : Y.plain d = true) (h2 : smal d = true) (h3 : dep d ≤ 60) (h4 : szD d ≤ 1000000) : Y.plain d = true ∧ (pd d).showable = true ∧ (pd d).depth ≤ 60 ∧ (pd d).shown.length ≤ sizeLine :=
  ⟨h1, (shown_sz d h2).2, Nat.le_trans (depth_pd d) h3, size_ok (Nat.le_trans (shown_sz d h2).1 h4)⟩
/-- small, plain, short -/
structure Sh (b c : Nat) (d : D) : Prop where
  p : Y.plain d = true
  s : smal d = true
  dp : dep d ≤ b
  z : szD d ≤ c
theorem Sh.rep {b c : Nat} {d : D} (h : Sh b c d) (hb : b ≤ 60 := by decide) (hc : c ≤ 1000000 := by decide) : Y.plain d = true ∧ (pd d).showable = true ∧ (pd d).depth ≤ 60 ∧ (pd d).shown.length ≤ sizeLine := repr_ok h.p h.s (Nat.le_trans h.dp hb) (Nat.le_trans h.z hc)
theorem Sh.lst {b c n : Nat} {l : List D} (h : ∀ d ∈ l, Sh b c d) (hn : l.length ≤ n) : Sh (b + 1) (2 + n * (c + 2)) (.lst l) where
  p := by unfold Y.plain; exact plainAll_of fun d hd => (h d hd).p
  s := by rw [smal_lst]; exact smal_of fun d hd => (h d hd).s
  dp := by
    rw [dep_lst]
    exact Nat.succ_le_succ (depAll_le.mpr fun d hd => (h d hd).dp)
  z := by
    rw [sz_lst]
    exact Nat.add_le_add_left (Nat.le_trans (szAll_le fun d hd => (h d hd).z) (Nat.mul_le_mul_right _ hn)) 2
theorem Sh.int {i : Int} (h : 0 ≤ i ∧ i ≤ 12) : Sh 0 2 (.int i) where
  p := rfl
  s := by unfold smal; exact decide_eq_true h
  dp := Nat.le_refl _
  z := Nat.le_refl _
theorem Sh.ins {l : List Int} {n : Nat} (h : ∀ i ∈ l, 0 ≤ i ∧ i ≤ 12) (hn : l.length ≤ n) : Sh 1 (2 + n * 4) (inD l) :=
  Sh.lst (fun d hd => by
    obtain ⟨i, hi, rfl⟩ := List.mem_map.mp hd
    exact Sh.int (h i hi)) (by rw [List.length_map]; exact hn)
theorem Sh.ars {n : Int} (n2 : n ≤ 12) {l : Ar} (h : ∀ p ∈ l, inR n p) (hn : l.length ≤ 30) : Sh 2 400 (arD l) := by
  have z : Sh 2 (2 + 30 * (10 + 2)) (arD l) := Sh.lst (fun d hd => by
    obtain ⟨p, hp, rfl⟩ := List.mem_map.mp hd
    have hr := h p hp
    unfold inR at hr
    exact Sh.ins (l := [p.1, p.2]) (n := 2) (fun i hi => by simp at hi; omega) (by simp)) (by rw [List.length_map]; exact hn)
  exact ⟨z.p, z.s, z.dp, Nat.le_trans z.z (by decide)⟩
theorem Sh.up {b c b' c' : Nat} {d : D} (h : Sh b c d) (hb : b ≤ b' := by decide) (hc : c ≤ c' := by decide) : Sh b' c' d := ⟨h.p, h.s, Nat.le_trans h.dp hb, Nat.le_trans h.z hc⟩
theorem Sh.two {b c : Nat} {x y : D} (h : Sh b c x) (k : Sh b c y) : Sh (b + 1) (2 + 2 * (c + 2)) (.lst [x, y]) :=
  Sh.lst (fun d hd => by
    rcases List.mem_cons.mp hd with e | hd
    · rw [e]; exact h
    · rw [List.mem_singleton.mp hd]; exact k) (by simp)
end Q

/-! Q, part 18: what turns do to nets (no program in sight). -/
namespace Q
open PySem L2 Y
theorem may_rng {n : Int} {l : Ar} : ∀ k ∈ mayI n l, 1 ≤ k ∧ k ≤ n := fun k hk => (may_mem.mp hk).1
theorem brdF_sub (l : Ar) : ∀ (m : Nat) (left : List Int), ∀ k ∈ brdF l m left, k ∈ left
  | 0, _, _, h => h
  | m + 1, left, k, h => by
    have h' : k ∈ (if endsOf l left = [] then left else brdF l m (left.filter fun k => decide (k ∉ endsOf l left))) := h
    split at h'
    · exact h'
    · exact (List.mem_filter.mp (brdF_sub l m _ k h')).1
theorem brd_rng {n : Int} {l : Ar} : ∀ k ∈ brd n l, 1 ≤ k ∧ k ≤ n := fun k hk => pts_mem.mp (brdF_sub l _ _ k hk)
theorem brdF_len (l : Ar) : ∀ (m : Nat) (left : List Int), (brdF l m left).length ≤ left.length
  | 0, _ => Nat.le_refl _
  | m + 1, left => by
    show (if endsOf l left = [] then left else brdF l m (left.filter fun k => decide (k ∉ endsOf l left))).length ≤ _
    split
    · exact Nat.le_refl _
    · exact Nat.le_trans (brdF_len l m _) (List.length_filter_le ..)
theorem brd_len (n : Int) (l : Ar) : (brd n l).length ≤ n.toNat := by
  have := brdF_len l n.toNat (pts n)
  rw [pts_len] at this
  exact this
theorem Ok.bars {n : Int} {l : Ar} (o : Ok n l) : Bars n l := ⟨o.len, o.rng, o.dst, o.con⟩
theorem Bars.ok {n : Int} {l : Ar} (b : Bars n l) (n1 : 1 ≤ n) (n2 : n ≤ 12) : Ok n l := ⟨n1, n2, b.len, b.rng, b.dst, b.con⟩
theorem Ok.perm {n : Int} {l l' : Ar} (o : Ok n l) (pm : l'.Perm l) : Ok n l' := (o.bars.perm pm).ok o.n1 o.n12
theorem trn_ends (l : Ar) (p : Int) : (trn l p).map ends2 = l.map ends2 := by
  unfold trn
  rw [List.map_map]
  refine List.map_congr_left fun a _ => ?_
  show ends2 (if a.2 = p then (a.2, a.1) else a) = ends2 a
  split
  · exact ends2_swap ..
  · rfl
theorem ply_ends : ∀ (ts : List Int) (l : Ar), (ply l ts).map ends2 = l.map ends2
  | [], _ => rfl
  | t :: ts, l => (ply_ends ts (trn l t)).trans (trn_ends l t)
theorem Ok.trn {n : Int} {l : Ar} (o : Ok n l) (p : Int) : Ok n (trn l p) := o.bars.turned o.n1 o.n12 (trn_ends l p)
theorem Ok.ply {n : Int} {l : Ar} (o : Ok n l) (ts : List Int) : Ok n (ply l ts) := o.bars.turned o.n1 o.n12 (ply_ends ts l)
theorem srt_perm (l : Ar) : (srt l).Perm l := List.mergeSort_perm ..
theorem Ok.srt {n : Int} {l : Ar} (o : Ok n l) : Ok n (srt l) := o.perm (srt_perm l)
theorem le4 (p q : Int × Int) : leD (t4 p) (t4 q) = !decide (L4 (min q.1 q.2) (max q.1 q.2) q.1 q.2 (min p.1 p.2) (max p.1 p.2) p.1 p.2) := by
  show (!PySem.W.dataLt (pd (t4 q)) (pd (t4 p))) = _
  rw [t4_pd, t4_pd, lt4]
theorem le4_anti {p q : Int × Int} (h : leD (t4 p) (t4 q) = true) (k : leD (t4 q) (t4 p) = true) : p = q := by
  rw [le4] at h k
  simp only [Bool.not_eq_true', decide_eq_false_iff_not, L4] at h k
  refine Prod.ext ?_ ?_ <;> omega
theorem le4_total (p q : Int × Int) : (leD (t4 p) (t4 q) || leD (t4 q) (t4 p)) = true := by
  rw [le4, le4, Bool.or_eq_true]
  simp only [Bool.not_eq_true', decide_eq_false_iff_not, L4]
  omega
theorem le4_trans (p q r : Int × Int) (h : leD (t4 p) (t4 q) = true) (k : leD (t4 q) (t4 r) = true) : leD (t4 p) (t4 r) = true := by
  rw [le4] at h k ⊢
  simp only [Bool.not_eq_true', decide_eq_false_iff_not, L4] at h k ⊢
  omega
theorem srt_sorted (l : Ar) : (srt l).Pairwise fun p q => leD (t4 p) (t4 q) = true := List.pairwise_mergeSort (le := fun p q => leD (t4 p) (t4 q)) (fun a b c => le4_trans a b c) (fun a b => le4_total a b) l
theorem sorted_eq : ∀ {l m : Ar}, l.Perm m → l.Pairwise (fun p q => leD (t4 p) (t4 q) = true) → m.Pairwise (fun p q => leD (t4 p) (t4 q) = true) → l = m
  | [], m, pm, _, _ => (List.nil_perm.mp pm).symm
  | p :: l, [], pm, _, _ => by simp at pm
  | p :: l, q :: m, pm, h, k => by
    have e : p = q := by
      have hp := List.pairwise_cons.mp h
      have kq := List.pairwise_cons.mp k
      rcases List.mem_cons.mp (pm.mem_iff.mp (List.mem_cons_self ..)) with e | e
      · exact e
      · rcases List.mem_cons.mp (pm.mem_iff.mpr (List.mem_cons_self (a := q))) with e2 | e2
        · exact e2.symm
        · exact le4_anti (hp.1 _ e2) (kq.1 _ e)
    subst e
    rw [sorted_eq (List.Perm.cons_inv pm) (List.pairwise_cons.mp h).2 (List.pairwise_cons.mp k).2]
theorem srt_eq {l l' : Ar} (pm : l'.Perm l) : srt l' = srt l := sorted_eq (((srt_perm l').trans pm).trans (srt_perm l).symm) (srt_sorted _) (srt_sorted _)
theorem may_perm {n : Int} {l l' : Ar} (pm : l'.Perm l) : mayI n l' = mayI n l := by
  unfold mayI
  refine List.filter_congr fun k _ => ?_
  rw [decide_eq_decide, (pm.map (·.1)).mem_iff]
theorem trn_perm {l l' : Ar} (pm : l'.Perm l) (p : Int) : (trn l' p).Perm (trn l p) := pm.map _
theorem Onw.mono {l l' : Ar} (s : ∀ p ∈ l, p ∈ l') {a b : Int} (h : Onw l a b) : Onw l' a b := by
  induction h with
  | one h => exact .one (s _ h)
  | more _ h ih => exact .more ih (s _ h)
theorem good.mono {l l' : Ar} (s : ∀ p ∈ l, p ∈ l') {a : Int} (h : good l a) : good l' a := h.imp fun _ k => ⟨k.1.mono s, k.2.mono s⟩
theorem brd_mem {n : Int} {l : Ar} (hr : ∀ p ∈ l, inR n p) {k : Int} : k ∈ brd n l ↔ (1 ≤ k ∧ k ≤ n) ∧ good l k := by
  have cl := Classical.propDecidable
  have e := brd_good (n := n) hr (p := fun k => @decide (good l k) (cl _)) fun k _ _ => ⟨fun h => @of_decide_eq_true _ (cl _) h, fun h => @decide_eq_true _ (cl _) h⟩
  rw [e, List.mem_filter, pts_mem]
  exact ⟨fun h => ⟨h.1, @of_decide_eq_true _ (cl _) h.2⟩, fun h => ⟨h.1, @decide_eq_true _ (cl _) h.2⟩⟩
theorem not_may {n : Int} {l : Ar} {k : Int} (g : good l k) : k ∉ mayI n l := fun h => by
  obtain ⟨j, hj, _⟩ := g.next
  exact (may_mem.mp h).2 (List.mem_map.mpr ⟨_, hj, rfl⟩)
theorem trn_keep {l : Ar} {a b t : Int} (h : (a, b) ∈ l) (ne : b ≠ t) : (a, b) ∈ trn l t := by
  refine List.mem_map.mpr ⟨(a, b), h, ?_⟩
  show (if b = t then (b, a) else (a, b)) = _
  rw [if_neg ne]
theorem trn_flip {l : Ar} {a t : Int} (h : (a, t) ∈ l) : (t, a) ∈ trn l t := by
  refine List.mem_map.mpr ⟨(a, t), h, ?_⟩
  show (if t = t then (t, a) else (a, t)) = _
  rw [if_pos rfl]
theorem Onw.trn {l : Ar} {t : Int} (ht : ∀ x, (t, x) ∉ l) {a b : Int} (h : Onw l a b) (k : ∃ x, (b, x) ∈ l) : Onw (trn l t) a b := by
  induction h with
  | one h => exact .one (trn_keep h fun e => k.elim fun x hx => ht x (e ▸ hx))
  | more _ h ih => exact .more (ih ⟨_, h⟩) (trn_keep h fun e => k.elim fun x hx => ht x (e ▸ hx))
theorem good.trn {n : Int} {l : Ar} {t k : Int} (g : good l k) (h : t ∈ mayI n l) : good (trn l t) k := by
  obtain ⟨r, h1, h2⟩ := g
  have ht : ∀ x, (t, x) ∉ l := fun x hx => (may_mem.mp h).2 (List.mem_map.mpr ⟨_, hx, rfl⟩)
  have kr : ∃ x, (r, x) ∈ l := h2.head.imp fun _ z => z.1
  exact ⟨r, h1.trn ht kr, h2.trn ht kr⟩
theorem good.ply {n : Int} {k : Int} : ∀ {ts : List Int} {l : Ar}, legal n l ts → good l k → good (ply l ts) k ∧ k ∉ ts
  | [], _, _, g => ⟨g, by simp⟩
  | t :: ts, l, h, g => by
    obtain ⟨a, b⟩ := good.ply h.2 (g.trn h.1)
    refine ⟨a, fun z => ?_⟩
    rcases List.mem_cons.mp z with e | z
    · subst e
      exact not_may g h.1
    · exact b z
theorem brd_grow {n : Int} {l : Ar} (o : Ok n l) {ts : List Int} (lg : legal n l ts) {k : Int} (h : k ∈ brd n l) : k ∈ brd n (srt (ply l ts)) := by
  obtain ⟨h1, h2⟩ := (brd_mem o.rng).mp h
  refine (brd_mem (o.ply ts).srt.rng).mpr ⟨h1, ?_⟩
  exact (good.ply lg h2).1.mono fun p hp => (srt_perm _).mem_iff.mpr hp
theorem brd_still {n : Int} {l : Ar} (o : Ok n l) {ts : List Int} (lg : legal n l ts) {k : Int} (h : k ∈ ts) : k ∉ brd n l := fun hb =>
  (good.ply lg ((brd_mem o.rng).mp hb).2).2 h
/-- v, u, v, .. -/
def alt (v u : Int) : List Int → Prop
  | [] => True
  | x :: r => x = v ∧ alt u v r
theorem legal.alt {n a b : Int} : ∀ {ts : List Int} {l : Ar} {u v : Int}, legal n l ts → (u, v) ∈ l → ((a = u ∧ b = v) ∨ (a = v ∧ b = u)) → alt v u (ts.filter fun x => decide (x = a ∨ x = b))
  | [], _, _, _, _, _, _ => trivial
  | t :: ts, l, u, v, h, m, e => by
    have hu : t ≠ u := fun z => (may_mem.mp h.1).2 (List.mem_map.mpr ⟨_, m, z.symm⟩)
    by_cases hv : t = v
    · subst hv
      rw [List.filter_cons_of_pos (by rcases e with ⟨rfl, rfl⟩ | ⟨rfl, rfl⟩ <;> simp)]
      exact ⟨rfl, legal.alt h.2 (trn_flip m) (by omega)⟩
    · rw [List.filter_cons_of_neg (by simp only [decide_eq_true_eq]; omega)]
      exact legal.alt h.2 (trn_keep m fun z => hv z.symm) e
theorem alt_zip : ∀ {fs : List Int} {u v : Int}, u ≠ v → alt v u fs → (fs.zip (fs.drop 1)).filter (fun q => decide (q.1 = q.2)) = []
  | [], _, _, _, _ => rfl
  | [_], _, _, _, _ => rfl
  | x :: y :: r, u, v, ne, h => by
    obtain ⟨rfl, rfl, h3⟩ := h
    have := alt_zip (fs := y :: r) (u := x) (v := y) (fun z => ne z.symm) ⟨rfl, h3⟩
    show ((x, y) :: (y :: r).zip ((y :: r).drop 1)).filter _ = []
    rw [List.filter_cons_of_neg (by simp only [decide_eq_true_eq]; omega)]
    exact this
theorem legal.rng {n : Int} : ∀ {ts : List Int} {l : Ar}, legal n l ts → ∀ t ∈ ts, 1 ≤ t ∧ t ≤ n
  | [], _, _, _, h => by cases h
  | t :: ts, l, h, x, hx => by
    rcases List.mem_cons.mp hx with rfl | hx
    · exact may_rng _ h.1
    · exact legal.rng h.2 x hx
theorem may_apart {n : Int} {l : Ar} : (l.filter fun a => decide (a.1 ∈ mayI n l) && decide (a.2 ∈ mayI n l)) = [] := by
  refine List.filter_eq_nil_iff.mpr fun a ha h => ?_
  rw [Bool.and_eq_true, decide_eq_true_eq] at h
  exact (may_mem.mp h.1).2 (List.mem_map.mpr ⟨a, ha, rfl⟩)
end Q

/-! R, part 1: counts of turns, prices of walks (no program in sight). -/
namespace Q
open PySem L2 Y
/-- walks from S: an arrow costs one onward, none back -/
inductive Wk (l : Ar) (S : List Int) : Int → Nat → Prop
  | base {s : Int} : s ∈ S → Wk l S s 0
  | fwd {u v : Int} {m : Nat} : Wk l S u m → (u, v) ∈ l → Wk l S v (m + 1)
  | back {u v : Int} {m : Nat} : Wk l S v m → (u, v) ∈ l → Wk l S u m
/-- d is the least price -/
def IsD (n : Int) (l : Ar) (S : List Int) (d : Int → Nat) : Prop := ∀ k, 1 ≤ k → k ≤ n → Wk l S k (d k) ∧ ∀ m, Wk l S k m → d k ≤ m
def tab (n : Int) (d : Int → Nat) : List Int := (pts n).map fun k => (d k : Int)
theorem Wk.reach {l : Ar} {S : List Int} {a b : Int} (r : Rch l a b) (h : ∃ m, Wk l S a m) : ∃ m, Wk l S b m := by
  induction r with
  | refl => exact h
  | step _ e ih =>
    obtain ⟨m, w⟩ := ih
    rcases e with e | e
    · exact ⟨_, w.fwd e⟩
    · exact ⟨_, w.back e⟩
theorem least {p : Nat → Prop} : ∀ m, p m → ∃ k, p k ∧ ∀ j, p j → k ≤ j := fun m => by
  induction m using Nat.strongRecOn with
  | ind m ih =>
    intro h
    by_cases z : ∃ j, j < m ∧ p j
    · obtain ⟨j, hj, pj⟩ := z
      exact ih j hj pj
    · exact ⟨m, h, fun j pj => Nat.le_of_not_lt fun hj => z ⟨j, hj, pj⟩⟩
theorem exD {n : Int} {l : Ar} {S : List Int} (o : Ok n l) (hS : S ≠ []) (hr : ∀ s ∈ S, 1 ≤ s ∧ s ≤ n) : ∃ d, IsD n l S d := by
  obtain ⟨s, hs⟩ := List.exists_mem_of_ne_nil S hS
  have h2 := hr s hs
  have all : ∀ k, 1 ≤ k → k ≤ n → ∃ m, Wk l S k m := fun k k1 k2 =>
    Wk.reach ((o.con s h2.1 h2.2).symm.trans (o.con k k1 k2)) ⟨0, .base hs⟩
  have one : ∀ k : Int, ∃ m : Nat, 1 ≤ k → k ≤ n → Wk l S k m ∧ ∀ j, Wk l S k j → m ≤ j := fun k => by
    by_cases z : 1 ≤ k ∧ k ≤ n
    · obtain ⟨m, w⟩ := all k z.1 z.2
      obtain ⟨j, w2, hj⟩ := least m w
      exact ⟨j, fun _ _ => ⟨w2, hj⟩⟩
    · exact ⟨0, fun a b => absurd ⟨a, b⟩ z⟩
  obtain ⟨d, hd⟩ := Classical.axiomOfChoice one
  exact ⟨d, fun k k1 k2 => hd k k1 k2⟩
section
variable {n : Int} {l : Ar} {S : List Int} {d : Int → Nat}
theorem IsD.fwd (D : IsD n l S d) (hr : ∀ p ∈ l, inR n p) {u v : Int} (h : (u, v) ∈ l) : d v ≤ d u + 1 := by
  have r := hr _ h
  exact (D v r.2.1.1 r.2.1.2).2 _ ((D u r.1.1 r.1.2).1.fwd h)
theorem IsD.back (D : IsD n l S d) (hr : ∀ p ∈ l, inR n p) {u v : Int} (h : (u, v) ∈ l) : d u ≤ d v := by
  have r := hr _ h
  exact (D u r.1.1 r.1.2).2 _ ((D v r.2.1.1 r.2.1.2).1.back h)
theorem IsD.zero (D : IsD n l S d) {s : Int} (h : s ∈ S) (h1 : 1 ≤ s) (h2 : s ≤ n) : d s = 0 := Nat.le_zero.mp ((D s h1 h2).2 _ (.base h))
theorem IsD.uniq {d' : Int → Nat} (D : IsD n l S d) (D' : IsD n l S d') {k : Int} (h1 : 1 ≤ k) (h2 : k ≤ n) : d k = d' k :=
  Nat.le_antisymm ((D k h1 h2).2 _ (D' k h1 h2).1) ((D' k h1 h2).2 _ (D k h1 h2).1)
/-- all prices up to d k come -/
theorem IsD.all (D : IsD n l S d) (hr : ∀ p ∈ l, inR n p) (hS : ∀ s ∈ S, 1 ≤ s ∧ s ≤ n) {k : Int} {m : Nat} (w : Wk l S k m) : ∀ j, j ≤ d k → ∃ x, (1 ≤ x ∧ x ≤ n) ∧ d x = j := by
  induction w with
  | base h =>
    intro j hj
    have r := hS _ h
    rw [D.zero h r.1 r.2] at hj
    exact ⟨_, r, by rw [D.zero h r.1 r.2]; omega⟩
  | @fwd u v m w e ih =>
    intro j hj
    have := D.fwd hr e
    by_cases z : j ≤ d u
    · exact ih j z
    · exact ⟨v, (hr _ e).2.1, by omega⟩
  | back w e ih =>
    intro j hj
    have := D.back hr e
    exact ih j (by omega)
theorem nd_len : ∀ {l m : List Nat}, l.Nodup → (∀ x ∈ l, x ∈ m) → l.length ≤ m.length
  | [], _, _, _ => Nat.zero_le _
  | a :: l, m, nd, h => by
    have nd2 := List.nodup_cons.mp nd
    have ha := h a List.mem_cons_self
    have := nd_len (l := l) (m := m.erase a) nd2.2 fun x hx => (List.mem_erase_of_ne (fun e => by subst e; exact nd2.1 hx)).mpr (h x (List.mem_cons_of_mem _ hx))
    rw [List.length_erase_of_mem ha] at this
    have := List.length_pos_of_mem ha
    rw [List.length_cons]
    omega
theorem IsD.small (D : IsD n l S d) (hr : ∀ p ∈ l, inR n p) (hS : ∀ s ∈ S, 1 ≤ s ∧ s ≤ n) {k : Int} (h1 : 1 ≤ k) (h2 : k ≤ n) : d k < n.toNat := by
  have w := (D k h1 h2).1
  have a := D.all hr hS w
  have := nd_len (l := List.range (d k + 1)) (m := (pts n).map d) List.nodup_range fun j hj => by
    obtain ⟨x, hx, e⟩ := a j (Nat.le_of_lt_succ (List.mem_range.mp hj))
    exact List.mem_map.mpr ⟨x, pts_mem.mpr hx, e⟩
  rw [List.length_range, List.length_map, pts_len] at this
  omega
end

/-! ### rounds -/
def rlx (f : Int → Nat) (u v : Int) (p : Nat) : Int → Nat := fun k => if k = v then min (f v) (f u + p) else f k
def rnd1 (f : Int → Nat) (a : Int × Int) : Int → Nat := rlx (rlx f a.1 a.2 1) a.2 a.1 0
def rnd (l : Ar) (f : Int → Nat) : Int → Nat := l.foldl rnd1 f
def itr (l : Ar) : Nat → (Int → Nat) → (Int → Nat)
  | 0, f => f
  | j + 1, f => rnd l (itr l j f)
theorem rlx_le (f : Int → Nat) (u v : Int) (p : Nat) (k : Int) : rlx f u v p k ≤ f k := by
  unfold rlx
  by_cases z : k = v
  · rw [if_pos z, z]
    omega
  · rw [if_neg z]
    exact Nat.le_refl _
theorem rnd1_le (f : Int → Nat) (a : Int × Int) (k : Int) : rnd1 f a k ≤ f k := Nat.le_trans (rlx_le ..) (rlx_le ..)
theorem rnd_le : ∀ (l : Ar) (f : Int → Nat) (k : Int), rnd l f k ≤ f k
  | [], _, _ => Nat.le_refl _
  | a :: l, f, k => Nat.le_trans (rnd_le l (rnd1 f a) k) (rnd1_le f a k)
theorem rnd1_rel (f : Int → Nat) (a : Int × Int) : rnd1 f a a.2 ≤ f a.1 + 1 ∧ rnd1 f a a.1 ≤ f a.2 := by
  constructor
  · refine Nat.le_trans (rlx_le ..) ?_
    unfold rlx
    rw [if_pos rfl]
    omega
  · unfold rnd1
    have := rlx_le f a.1 a.2 1 a.2
    show rlx _ _ _ _ _ ≤ _
    unfold rlx at this ⊢
    rw [if_pos rfl] at this ⊢
    rw [if_pos rfl]
    omega
theorem rnd_rel : ∀ (l : Ar) (f : Int → Nat), ∀ a ∈ l, rnd l f a.2 ≤ f a.1 + 1 ∧ rnd l f a.1 ≤ f a.2
  | b :: l, f, a, h => by
    show rnd l (rnd1 f b) a.2 ≤ _ ∧ rnd l (rnd1 f b) a.1 ≤ _
    rcases List.mem_cons.mp h with rfl | h
    · exact ⟨Nat.le_trans (rnd_le ..) (rnd1_rel f a).1, Nat.le_trans (rnd_le ..) (rnd1_rel f a).2⟩
    · have i := rnd_rel l (rnd1 f b) a h
      have e1 := rnd1_le f b a.1
      have e2 := rnd1_le f b a.2
      omega
section
variable {n : Int} {l : Ar} {S : List Int} {d f : Int → Nat}
def Ub (n : Int) (d f : Int → Nat) : Prop := ∀ k, 1 ≤ k → k ≤ n → d k ≤ f k
theorem Ub.rlx (h : Ub n d f) {u v : Int} {p : Nat} (hu : 1 ≤ u ∧ u ≤ n) (e : d v ≤ d u + p) : Ub n d (rlx f u v p) := fun k h1 h2 => by
  unfold Q.rlx
  by_cases z : k = v
  · rw [if_pos z]
    subst z
    have a := h k h1 h2
    have b := h u hu.1 hu.2
    omega
  · rw [if_neg z]
    exact h k h1 h2
theorem Ub.rnd (D : IsD n l S d) (hr : ∀ p ∈ l, inR n p) : ∀ (m : Ar) (f : Int → Nat), (∀ a ∈ m, a ∈ l) → Ub n d f → Ub n d (rnd m f)
  | [], _, _, h => h
  | a :: m, f, s, h => by
    have ha := s a List.mem_cons_self
    refine Ub.rnd D hr m (rnd1 f a) (fun b hb => s b (List.mem_cons_of_mem _ hb)) ?_
    have r := hr a ha
    exact (h.rlx r.1 (D.fwd hr (u := a.1) (v := a.2) ha)).rlx r.2.1 (by have := D.back hr (u := a.1) (v := a.2) ha; omega)
theorem Ub.itr (D : IsD n l S d) (hr : ∀ p ∈ l, inR n p) (h : Ub n d f) : ∀ j, Ub n d (itr l j f)
  | 0 => h
  | j + 1 => Ub.rnd D hr l _ (fun _ h => h) (Ub.itr D hr h j)
/-- one that isn't final, behind one that is -/
theorem edge {F : Int → Prop} (D : IsD n l S d) (hr : ∀ p ∈ l, inR n p) (hS : ∀ s ∈ S, F s) {k : Int} {m : Nat} (w : Wk l S k m) : m = d k → ¬ F k → ∃ a ∈ l, (F a.1 ∧ ¬ F a.2 ∧ d a.2 = d a.1 + 1) ∨ (F a.2 ∧ ¬ F a.1 ∧ d a.1 = d a.2) := by
  induction w with
  | base h => exact fun _ z => absurd (hS _ h) z
  | @fwd u v m w e ih =>
    intro em nf
    have r := hr _ e
    have e1 := (D u r.1.1 r.1.2).2 _ w
    have e2 := D.fwd hr e
    by_cases z : F u
    · exact ⟨_, e, .inl ⟨z, nf, by show d v = d u + 1; omega⟩⟩
    · exact ih (by omega) z
  | @back u v m w e ih =>
    intro em nf
    have r := hr _ e
    have e1 := (D v r.2.1.1 r.2.1.2).2 _ w
    have e2 := D.back hr e
    by_cases z : F v
    · exact ⟨_, e, .inr ⟨z, nf, by show d u = d v; omega⟩⟩
    · exact ih (by omega) z
def fins (n : Int) (d f : Int → Nat) : Nat := ((pts n).filter fun k => decide (f k = d k)).length
theorem fins_step (D : IsD n l S d) (hr : ∀ p ∈ l, inR n p) (hSr : ∀ s ∈ S, 1 ≤ s ∧ s ≤ n) (u : Ub n d f) (hS : ∀ s ∈ S, f s = d s) : fins n d f = n.toNat ∨ fins n d f < fins n d (rnd l f) := by
  have mono : ∀ k ∈ pts n, decide (f k = d k) = true → decide (rnd l f k = d k) = true := fun k hk e => by
    have r := pts_mem.mp hk
    have e1 := of_decide_eq_true e
    have e2 := rnd_le l f k
    have e3 := Ub.rnd D hr l f (fun _ h => h) u k r.1 r.2
    exact decide_eq_true (by omega)
  by_cases z : ∀ k, 1 ≤ k → k ≤ n → f k = d k
  · left
    unfold fins
    rw [List.filter_eq_self.mpr fun k hk => decide_eq_true (z k (pts_mem.mp hk).1 (pts_mem.mp hk).2), pts_len]
  · right
    obtain ⟨k, hk⟩ : ∃ k, (1 ≤ k ∧ k ≤ n) ∧ f k ≠ d k := Classical.byContradiction fun y => z fun k h1 h2 => Classical.byContradiction fun x => y ⟨k, ⟨h1, h2⟩, x⟩
    obtain ⟨a, ha, h⟩ := edge (F := fun k => f k = d k) D hr hS (D k hk.1.1 hk.1.2).1 rfl hk.2
    have r := hr a ha
    have rl := rnd_rel l f a ha
    rcases h with ⟨h1, h2, h3⟩ | ⟨h1, h2, h3⟩
    · have e3 := Ub.rnd D hr l f (fun _ h => h) u a.2 r.2.1.1 r.2.1.2
      exact filter_lt (x := a.2) mono (pts_mem.mpr r.2.1) (decide_eq_false h2) (decide_eq_true (by omega))
    · have e3 := Ub.rnd D hr l f (fun _ h => h) u a.1 r.1.1 r.1.2
      exact filter_lt (x := a.1) mono (pts_mem.mpr r.1) (decide_eq_false h2) (decide_eq_true (by omega))
theorem itr_S (D : IsD n l S d) (hr : ∀ p ∈ l, inR n p) (hSr : ∀ s ∈ S, 1 ≤ s ∧ s ≤ n) (u : Ub n d f) (hS : ∀ s ∈ S, f s = d s) : ∀ j, ∀ s ∈ S, itr l j f s = d s
  | 0, s, h => hS s h
  | j + 1, s, h => by
    have r := hSr s h
    have e1 := itr_S D hr hSr u hS j s h
    have e2 := rnd_le l (itr l j f) s
    have e3 := Ub.itr D hr u (j + 1) s r.1 r.2
    have e4 : itr l (j + 1) f s = rnd l (itr l j f) s := rfl
    omega
theorem fins_itr (D : IsD n l S d) (hr : ∀ p ∈ l, inR n p) (hSr : ∀ s ∈ S, 1 ≤ s ∧ s ≤ n) (hS0 : S ≠ []) (u : Ub n d f) (hS : ∀ s ∈ S, f s = d s) : ∀ j, fins n d (itr l j f) = n.toNat ∨ j + 1 ≤ fins n d (itr l j f)
  | 0 => by
    right
    obtain ⟨s, hs⟩ := List.exists_mem_of_ne_nil S hS0
    exact List.length_pos_of_mem (List.mem_filter.mpr ⟨pts_mem.mpr (hSr s hs), decide_eq_true (hS s hs)⟩)
  | j + 1 => by
    have ui := Ub.itr D hr u j
    have si := itr_S D hr hSr u hS j
    have top : fins n d (itr l (j + 1) f) ≤ n.toNat := by
      have := List.length_filter_le (fun k => decide (itr l (j + 1) f k = d k)) (pts n)
      rw [pts_len] at this
      exact this
    rcases fins_itr D hr hSr hS0 u hS j with e | e
    · left
      have mono : fins n d (itr l j f) ≤ fins n d (itr l (j + 1) f) := filter_le fun k hk e => by
        have r := pts_mem.mp hk
        have e1 := of_decide_eq_true e
        have e2 := rnd_le l (itr l j f) k
        have e3 := Ub.itr D hr u (j + 1) k r.1 r.2
        have e4 : itr l (j + 1) f k = rnd l (itr l j f) k := rfl
        exact decide_eq_true (by omega)
      omega
    · rcases fins_step D hr hSr ui si with z | z
      · left
        have mono : fins n d (itr l j f) ≤ fins n d (itr l (j + 1) f) := filter_le fun k hk e => by
          have r := pts_mem.mp hk
          have e1 := of_decide_eq_true e
          have e2 := rnd_le l (itr l j f) k
          have e3 := Ub.itr D hr u (j + 1) k r.1 r.2
          have e4 : itr l (j + 1) f k = rnd l (itr l j f) k := rfl
          exact decide_eq_true (by omega)
        omega
      · right
        have : fins n d (itr l j f) < fins n d (itr l (j + 1) f) := z
        omega
/-- after n rounds all is told -/
theorem itr_done (D : IsD n l S d) (hr : ∀ p ∈ l, inR n p) (hSr : ∀ s ∈ S, 1 ≤ s ∧ s ≤ n) (hS0 : S ≠ []) (u : Ub n d f) (hS : ∀ s ∈ S, f s = d s) {j : Nat} (hj : n.toNat ≤ j + 1) {k : Int} (h1 : 1 ≤ k) (h2 : k ≤ n) : itr l j f k = d k := by
  have top : fins n d (itr l j f) ≤ n.toNat := by
    have := List.length_filter_le (fun k => decide (itr l j f k = d k)) (pts n)
    rw [pts_len] at this
    exact this
  have full : fins n d (itr l j f) = n.toNat := by
    rcases fins_itr D hr hSr hS0 u hS j with e | e <;> omega
  refine Classical.byContradiction fun z => ?_
  have : fins n d (itr l j f) < ((pts n).filter fun _ => true).length := filter_lt (x := k) (fun _ _ _ => rfl) (pts_mem.mpr ⟨h1, h2⟩) (decide_eq_false z) rfl
  rw [List.filter_eq_self.mpr fun _ _ => rfl, pts_len] at this
  omega
end
end Q

/-! R, part 2: standings told by counts of turns. -/
namespace Q
open PySem L2 Y
/-- the standing behind c k turns of each point k -/
def flp (l : Ar) (c : Int → Nat) : Ar := l.map fun a => if c a.2 = c a.1 + 1 then (a.2, a.1) else a
def cons (l : Ar) (c : Int → Nat) : Prop := ∀ a ∈ l, c a.2 = c a.1 ∨ c a.2 = c a.1 + 1
def inc (c : Int → Nat) (t : Int) : Int → Nat := fun k => if k = t then c k + 1 else c k
theorem inc_at (c : Int → Nat) (t : Int) : inc c t t = c t + 1 := if_pos rfl
theorem inc_ne (c : Int → Nat) {t k : Int} (h : k ≠ t) : inc c t k = c k := if_neg h
theorem flp_zero (l : Ar) : flp l (fun _ => 0) = l := by
  unfold flp
  exact map_id_of _ _ fun a _ => if_neg (show ¬ (0 : Nat) = 0 + 1 by omega)
theorem cons_zero (l : Ar) : cons l fun _ => 0 := fun a _ => .inl rfl
theorem flp_len (l : Ar) (c : Int → Nat) : (flp l c).length = l.length := List.length_map ..
theorem flp_ends (l : Ar) (c : Int → Nat) : (flp l c).map ends2 = l.map ends2 := by
  unfold flp
  rw [List.map_map]
  refine List.map_congr_left fun a _ => ?_
  show ends2 (if c a.2 = c a.1 + 1 then (a.2, a.1) else a) = ends2 a
  split
  · exact ends2_swap ..
  · rfl
theorem Ok.flp {n : Int} {l : Ar} (o : Ok n l) (c : Int → Nat) : Ok n (flp l c) := o.bars.turned o.n1 o.n12 (flp_ends l c)
/-- an arrow of flp -/
theorem flp_mem {l : Ar} {c : Int → Nat} (hc : cons l c) {a b : Int} (h : (a, b) ∈ flp l c) : ((a, b) ∈ l ∧ c b = c a) ∨ ((b, a) ∈ l ∧ c a = c b + 1) := by
  obtain ⟨q, hq, e⟩ := List.mem_map.mp h
  have k := hc q hq
  by_cases z : c q.2 = c q.1 + 1
  · rw [if_pos z] at e
    right
    have e1 : q.2 = a := congrArg Prod.fst e
    have e2 : q.1 = b := congrArg Prod.snd e
    have e3 : q = (b, a) := Prod.ext e2 e1
    rw [e3] at hq
    exact ⟨hq, by rw [← e1, ← e2]; exact z⟩
  · rw [if_neg z] at e
    subst e
    left
    exact ⟨hq, by rcases k with k | k; exact k; exact absurd k z⟩
theorem mem_flp {l : Ar} {c : Int → Nat} {a b : Int} (h : (a, b) ∈ l) (e : c b = c a) : (a, b) ∈ flp l c :=
  List.mem_map.mpr ⟨(a, b), h, if_neg (by show ¬ c b = c a + 1; omega)⟩
theorem mem_flp' {l : Ar} {c : Int → Nat} {a b : Int} (h : (b, a) ∈ l) (e : c a = c b + 1) : (a, b) ∈ flp l c :=
  List.mem_map.mpr ⟨(b, a), h, if_pos e⟩
theorem trn_flp {n : Int} {l : Ar} {c : Int → Nat} (hr : ∀ p ∈ l, inR n p) (hc : cons l c) {t : Int} (ht : ∀ x, (t, x) ∉ flp l c) : trn (flp l c) t = flp l (inc c t) ∧ cons l (inc c t) := by
  have one : ∀ a ∈ l, (let a' := if c a.2 = c a.1 + 1 then (a.2, a.1) else a; if a'.2 = t then (a'.2, a'.1) else a') = (if inc c t a.2 = inc c t a.1 + 1 then (a.2, a.1) else a) ∧ (inc c t a.2 = inc c t a.1 ∨ inc c t a.2 = inc c t a.1 + 1) := fun a ha => by
    obtain ⟨u, v⟩ := a
    have ne : u ≠ v := (hr _ ha).2.2
    have k : c v = c u ∨ c v = c u + 1 := hc _ ha
    show (if (if c v = c u + 1 then (v, u) else (u, v)).2 = t then ((if c v = c u + 1 then (v, u) else (u, v)).2, (if c v = c u + 1 then (v, u) else (u, v)).1) else (if c v = c u + 1 then (v, u) else (u, v))) = (if inc c t v = inc c t u + 1 then (v, u) else (u, v)) ∧ (inc c t v = inc c t u ∨ inc c t v = inc c t u + 1)
    by_cases z : c v = c u + 1
    · rw [if_pos z]
      have h2 : (v, u) ∈ flp l c := mem_flp' ha z
      have nv : t ≠ v := fun e => ht u (e ▸ h2)
      by_cases e : u = t
      · subst e
        rw [if_pos rfl, inc_at, inc_ne c (Ne.symm nv), if_neg (by omega)]
        exact ⟨rfl, .inl (by omega)⟩
      · rw [if_neg e, inc_ne c e, inc_ne c (Ne.symm nv), if_pos z]
        exact ⟨rfl, .inr z⟩
    · rw [if_neg z]
      have z2 : c v = c u := by omega
      have h2 : (u, v) ∈ flp l c := mem_flp ha z2
      have nu : t ≠ u := fun e => ht v (e ▸ h2)
      by_cases e : v = t
      · subst e
        rw [if_pos rfl, inc_at, inc_ne c ne, if_pos (by omega)]
        exact ⟨rfl, .inr (by omega)⟩
      · rw [if_neg e, inc_ne c e, inc_ne c (Ne.symm nu), if_neg z]
        exact ⟨rfl, .inl z2⟩
  refine ⟨?_, fun a ha => (one a ha).2⟩
  unfold trn flp
  rw [List.map_map]
  exact List.map_congr_left fun a ha => (one a ha).1
theorem no_out {n t : Int} {l : Ar} (h : t ∈ mayI n l) : ∀ x, (t, x) ∉ l := fun x hx => (may_mem.mp h).2 (List.mem_map.mpr ⟨_, hx, rfl⟩)
/-- turns told by counts -/
theorem legal_flp {n : Int} {l : Ar} (hr : ∀ p ∈ l, inR n p) : ∀ {ts : List Int} {c : Int → Nat}, cons l c → legal n (flp l c) ts → ∃ c', cons l c' ∧ ply (flp l c) ts = flp l c' ∧ ∀ k, c' k = c k + ts.count k
  | [], c, hc, _ => ⟨c, hc, rfl, fun k => rfl⟩
  | t :: ts, c, hc, h => by
    obtain ⟨e, hc2⟩ := trn_flp hr hc (no_out h.1)
    have h2 := h.2
    rw [e] at h2
    obtain ⟨c', k1, k2, k3⟩ := legal_flp hr hc2 h2
    refine ⟨c', k1, ?_, fun k => ?_⟩
    · show ply (trn (flp l c) t) ts = _
      rw [e]
      exact k2
    · rw [k3 k, List.count_cons]
      by_cases z : k = t
      · subst z
        rw [inc_at]
        simp
        omega
      · rw [inc_ne c z]
        have : (t == k) = false := by simp; exact fun y => z y.symm
        rw [this]
        simp
/-! ### arrows onward in flp never lead up -/
theorem onw_le {l : Ar} {c : Int → Nat} (hc : cons l c) {a b : Int} (h : Onw (flp l c) a b) : c b ≤ c a := by
  induction h with
  | one h => rcases flp_mem hc h with h | h <;> omega
  | more _ h ih => rcases flp_mem hc h with h | h <;> omega
theorem onw_eq {l : Ar} {c : Int → Nat} (hc : cons l c) {a b : Int} (h : Onw (flp l c) a b) : c b = c a → Onw l a b := by
  induction h with
  | one h =>
    intro e
    rcases flp_mem hc h with h | h
    · exact .one h.1
    · omega
  | more h1 h ih =>
    intro e
    have le := onw_le hc h1
    rcases flp_mem hc h with h | h
    · exact .more (ih (by omega)) h.1
    · omega
theorem ring_back {l : Ar} {c : Int → Nat} (hc : cons l c) {r : Int} (h : Onw (flp l c) r r) : Onw l r r := onw_eq hc h rfl
theorem mem_rng {n : Int} {l : Ar} (hr : ∀ p ∈ l, inR n p) {r : Int} (h : Onw l r r) : 1 ≤ r ∧ r ≤ n := h.rng hr
/-- no ring comes -/
theorem free_flp {n : Int} {l : Ar} {c : Int → Nat} (o : Ok n l) (hc : cons l c) (h : brd n l = []) : brd n (flp l c) = [] := by
  refine List.eq_nil_iff_forall_not_mem.mpr fun k hk => ?_
  obtain ⟨_, r, _, h2⟩ := (brd_mem (o.flp c).rng).mp hk
  have h3 := ring_back hc h2
  have : r ∈ brd n l := (brd_mem o.rng).mpr ⟨mem_rng o.rng h3, r, h3, h3⟩
  rw [h] at this
  cases this
/-- where none may take a turn, all are barred -/
theorem stuck {n : Int} {l : Ar} (o : Ok n l) (h : mayI n l = []) {k : Int} (h1 : 1 ≤ k) (h2 : k ≤ n) : good l k := by
  have he : endsOf l (pts n) = [] := List.eq_nil_iff_forall_not_mem.mpr fun x hx => by
    obtain ⟨hx1, hx2⟩ := mem_ends_of.mp hx
    have : x ∈ mayI n l := may_mem.mpr ⟨pts_mem.mp hx1, fun z => by
      obtain ⟨p, hp, e⟩ := List.mem_map.mp z
      exact hx2 p hp e (pts_mem.mpr (o.rng p hp).2.1)⟩
    rw [h] at this
    cases this
  obtain ⟨T, hT⟩ := all_onw o.rng k
  exact all_good o.rng he _ T k hT (Nat.le_refl _) (pts_mem.mpr ⟨h1, h2⟩)
theorem free_may {n : Int} {l : Ar} (o : Ok n l) (h : brd n l = []) : mayI n l ≠ [] := fun z => by
  have g := stuck o z (Int.le_refl 1) o.n1
  have : (1 : Int) ∈ brd n l := (brd_mem o.rng).mpr ⟨⟨Int.le_refl 1, o.n1⟩, g⟩
  rw [h] at this
  cases this
/-! ### with barred points -/
structure Cnt (n : Int) (l : Ar) (c : Int → Nat) : Prop where
  cs : cons l c
  z : ∀ s ∈ brd n l, c s = 0
  g : ∀ s ∈ brd n l, good (flp l c) s
theorem Cnt.zero {n : Int} {l : Ar} (o : Ok n l) : Cnt n l fun _ => 0 := ⟨cons_zero l, fun _ _ => rfl, fun s h => by rw [flp_zero]; exact ((brd_mem o.rng).mp h).2⟩
theorem Cnt.step {n : Int} {l : Ar} {c : Int → Nat} (o : Ok n l) (i : Cnt n l c) {t : Int} (ht : t ∈ mayI n (flp l c)) : Cnt n l (inc c t) ∧ trn (flp l c) t = flp l (inc c t) := by
  obtain ⟨e, hc⟩ := trn_flp o.rng i.cs (no_out ht)
  refine ⟨⟨hc, fun s hs => ?_, fun s hs => ?_⟩, e⟩
  · rw [inc_ne c fun z => not_may (i.g s hs) (z ▸ ht)]
    exact i.z s hs
  · rw [← e]
    exact (i.g s hs).trn ht
section
variable {n : Int} {l : Ar} {c d : Int → Nat}
theorem Cnt.le (i : Cnt n l c) {k : Int} {m : Nat} (w : Wk l (brd n l) k m) : c k ≤ m := by
  induction w with
  | base h => rw [i.z _ h]; exact Nat.le_refl _
  | fwd _ e ih => rcases i.cs _ e with h | h <;> (simp only at h; omega)
  | back _ e ih => rcases i.cs _ e with h | h <;> (simp only at h; omega)
theorem Cnt.led (i : Cnt n l c) (D : IsD n l (brd n l) d) {k : Int} (h1 : 1 ≤ k) (h2 : k ≤ n) : c k ≤ d k := i.le (D k h1 h2).1
theorem good_iff (o : Ok n l) (i : Cnt n l c) (D : IsD n l (brd n l) d) {k : Int} (h1 : 1 ≤ k) (h2 : k ≤ n) : good (flp l c) k ↔ c k = d k := by
  have rf := (o.flp c).rng
  constructor
  · rintro ⟨r, hkr, hrr⟩
    have lr := ring_back i.cs hrr
    have rr := mem_rng o.rng lr
    have rb : r ∈ brd n l := (brd_mem o.rng).mpr ⟨rr, r, lr, lr⟩
    have r0 := i.z r rb
    have rd := D.zero rb rr.1 rr.2
    -- d - c never leads up
    have down : ∀ {a b : Int}, (a, b) ∈ flp l c → d a + c b ≤ d b + c a := fun {a b} h => by
      rcases flp_mem i.cs h with ⟨h, e⟩ | ⟨h, e⟩
      · have := D.back o.rng h
        omega
      · have := D.fwd o.rng h
        omega
    have walk : ∀ {a b : Int}, Onw (flp l c) a b → d a + c b ≤ d b + c a := fun {a b} h => by
      induction h with
      | one h => exact down h
      | more _ h ih => have := down h; omega
    have := walk hkr
    have := i.led D h1 h2
    omega
  · intro e
    have main : ∀ {k : Int} {m : Nat}, Wk l (brd n l) k m → m = d k → c k = d k → good (flp l c) k := fun {k m} w => by
      induction w with
      | base h => exact fun _ _ => i.g _ h
      | @fwd u v m w e ih =>
        intro em ec
        have r := o.rng _ e
        have e1 : d u ≤ m := (D u r.1.1 r.1.2).2 _ w
        have e2 := D.fwd o.rng e
        have e3 : c u ≤ d u := i.led D r.1.1 r.1.2
        have e4 : c v = c u ∨ c v = c u + 1 := i.cs _ e
        have g := ih (by omega) (by omega)
        obtain ⟨x, hx1, hx2⟩ := g
        exact ⟨x, .cons (mem_flp' e (by omega)) hx1, hx2⟩
      | @back u v m w e ih =>
        intro em ec
        have r := o.rng _ e
        have e1 : d v ≤ m := (D v r.2.1.1 r.2.1.2).2 _ w
        have e2 := D.back o.rng e
        have e3 : c v ≤ d v := i.led D r.2.1.1 r.2.1.2
        have e4 : c v = c u ∨ c v = c u + 1 := i.cs _ e
        have g := ih (by omega) (by omega)
        obtain ⟨x, hx1, hx2⟩ := g
        exact ⟨x, .cons (mem_flp e (by omega)) hx1, hx2⟩
    exact main (D k h1 h2).1 rfl e
theorem brd_flp (o : Ok n l) (i : Cnt n l c) (D : IsD n l (brd n l) d) : brd n (flp l c) = (pts n).filter fun k => decide (c k = d k) :=
  brd_good (o.flp c).rng fun k h1 h2 => by rw [decide_eq_true_eq]; exact (good_iff o i D h1 h2).symm
theorem isD_flp (o : Ok n l) (i : Cnt n l c) (D : IsD n l (brd n l) d) : IsD n (flp l c) (brd n (flp l c)) fun k => d k - c k := by
  rw [brd_flp o i D]
  have rf := (o.flp c).rng
  have inS : ∀ {k : Int}, 1 ≤ k → k ≤ n → c k = d k → k ∈ (pts n).filter fun k => decide (c k = d k) := fun h1 h2 e => List.mem_filter.mpr ⟨pts_mem.mpr ⟨h1, h2⟩, decide_eq_true e⟩
  have up : ∀ {k : Int} {m : Nat}, Wk l (brd n l) k m → (1 ≤ k ∧ k ≤ n) → m = d k → Wk (flp l c) ((pts n).filter fun k => decide (c k = d k)) k (d k - c k) := fun {k m} w => by
    induction w with
    | base h =>
      intro hk em
      rw [← em, Nat.zero_sub]
      exact .base (inS hk.1 hk.2 (by rw [i.z _ h, ← em]))
    | @fwd u v m w e ih =>
      intro hk em
      have r := o.rng _ e
      have e1 : d u ≤ m := (D u r.1.1 r.1.2).2 _ w
      have e2 := D.fwd o.rng e
      have e3 : c u ≤ d u := i.led D r.1.1 r.1.2
      have e5 : c v ≤ d v := i.led D r.2.1.1 r.2.1.2
      have e4 : c v = c u ∨ c v = c u + 1 := i.cs _ e
      have g := ih r.1 (by omega)
      rcases e4 with e4 | e4
      · have := g.fwd (mem_flp e e4)
        rw [show d v - c v = d u - c u + 1 by omega]
        exact this
      · have := g.back (mem_flp' e e4)
        rw [show d v - c v = d u - c u by omega]
        exact this
    | @back u v m w e ih =>
      intro hk em
      have r := o.rng _ e
      have e1 : d v ≤ m := (D v r.2.1.1 r.2.1.2).2 _ w
      have e2 := D.back o.rng e
      have e3 : c v ≤ d v := i.led D r.2.1.1 r.2.1.2
      have e5 : c u ≤ d u := i.led D r.1.1 r.1.2
      have e4 : c v = c u ∨ c v = c u + 1 := i.cs _ e
      have g := ih r.2.1 (by omega)
      rcases e4 with e4 | e4
      · have := g.back (mem_flp e e4)
        rw [show d u - c u = d v - c v by omega]
        exact this
      · have := g.fwd (mem_flp' e e4)
        rw [show d u - c u = d v - c v + 1 by omega]
        exact this
  have low : ∀ {k : Int} {m : Nat}, Wk (flp l c) ((pts n).filter fun k => decide (c k = d k)) k m → d k - c k ≤ m := fun {k m} w => by
    induction w with
    | base h =>
      have e := of_decide_eq_true (List.mem_filter.mp h).2
      omega
    | @fwd a b m w e ih =>
      rcases flp_mem i.cs e with ⟨h, e⟩ | ⟨h, e⟩
      · have := D.fwd o.rng h
        omega
      · have := D.back o.rng h
        omega
    | @back a b m w e ih =>
      rcases flp_mem i.cs e with ⟨h, e⟩ | ⟨h, e⟩
      · have := D.back o.rng h
        omega
      · have := D.fwd o.rng h
        omega
  exact fun k h1 h2 => ⟨up (D k h1 h2).1 ⟨h1, h2⟩ rfl, fun m w => low w⟩
/-- at rest: all have had their turns -/
theorem at_end (o : Ok n l) (i : Cnt n l c) (D : IsD n l (brd n l) d) (h : mayI n (flp l c) = []) {k : Int} (h1 : 1 ≤ k) (h2 : k ≤ n) : c k = d k := (good_iff o i D h1 h2).mp (stuck (o.flp c) h h1 h2)
theorem tab_eq (h : ∀ k, 1 ≤ k → k ≤ n → c k = d k) : tab n c = tab n d := List.map_congr_left fun k hk => by
  have r := pts_mem.mp hk
  rw [h k r.1 r.2]
theorem flp_eq (hr : ∀ p ∈ l, inR n p) (h : ∀ k, 1 ≤ k → k ≤ n → c k = d k) : flp l c = flp l d := List.map_congr_left fun a ha => by
  have r := hr a ha
  rw [h a.1 r.1.1 r.1.2, h a.2 r.2.1.1 r.2.1.2]
/-! ### how many turns -/
def sumc (n : Int) (c : Int → Nat) : Nat := ((pts n).map c).sum
theorem sum_le {l : List Int} {c d : Int → Nat} (h : ∀ k ∈ l, c k ≤ d k) : (l.map c).sum ≤ (l.map d).sum := by
  induction l with
  | nil => exact Nat.le_refl _
  | cons a l ih =>
    rw [List.map_cons, List.map_cons, List.sum_cons, List.sum_cons]
    have := h a List.mem_cons_self
    have := ih fun k hk => h k (List.mem_cons_of_mem _ hk)
    omega
theorem sum_const (l : List Int) (m : Nat) : (l.map fun _ => m).sum = l.length * m := by
  induction l with
  | nil => simp
  | cons a l ih => rw [List.map_cons, List.sum_cons, ih, List.length_cons, Nat.succ_mul]; omega
theorem sum_inc {l : List Int} (nd : l.Nodup) {t : Int} (c : Int → Nat) : (l.map (inc c t)).sum = (l.map c).sum + if t ∈ l then 1 else 0 := by
  induction l with
  | nil => simp
  | cons a l ih =>
    have nd2 := List.nodup_cons.mp nd
    rw [List.map_cons, List.map_cons, List.sum_cons, List.sum_cons, ih nd2.2]
    by_cases z : a = t
    · subst z
      rw [inc_at, if_neg nd2.1, if_pos List.mem_cons_self]
      omega
    · rw [inc_ne c z]
      by_cases y : t ∈ l
      · rw [if_pos y, if_pos (List.mem_cons_of_mem _ y)]
        omega
      · rw [if_neg y, if_neg fun h => by rcases List.mem_cons.mp h with h | h; exact z h.symm; exact y h]
        omega
theorem sumc_inc {t : Int} (c : Int → Nat) (h1 : 1 ≤ t) (h2 : t ≤ n) : sumc n (inc c t) = sumc n c + 1 := by
  unfold sumc
  rw [sum_inc (pts_nodup n), if_pos (pts_mem.mpr ⟨h1, h2⟩)]
theorem sumc_zero : sumc n (fun _ => 0) = 0 := by
  unfold sumc
  rw [sum_const]
  simp
theorem Cnt.sum (o : Ok n l) (i : Cnt n l c) (D : IsD n l (brd n l) d) : sumc n c < n.toNat * n.toNat := by
  have n1 := o.n1
  have a : sumc n c ≤ ((pts n).map fun _ => n.toNat - 1).sum := sum_le fun k hk => by
    have r := pts_mem.mp hk
    have e1 := i.led D r.1 r.2
    have e2 := D.small o.rng (fun s h => brd_rng s h) r.1 r.2
    omega
  rw [sum_const, pts_len] at a
  have : n.toNat * (n.toNat - 1) < n.toNat * n.toNat := Nat.mul_lt_mul_of_pos_left (by omega) (by omega)
  omega
end
end Q

/-! Q, common: texts, sorted nets, new lists. -/
namespace Q
open PySem L2 Y
theorem Sh.may {n : Int} {l : Ar} (n2 : n ≤ 12) : Sh 1 50 (inD (mayI n l)) :=
  Sh.ins (n := 12) (fun i hi => by have := may_rng i hi; omega) (by have := may_len n l; omega)
theorem Sh.brd {n : Int} {l : Ar} (n2 : n ≤ 12) : Sh 1 50 (inD (brd n l)) :=
  Sh.ins (n := 12) (fun i hi => by have := brd_rng i hi; omega) (by have := brdF_len l n.toNat (pts n); rw [pts_len] at this; unfold Q.brd; omega)
theorem strOk_app (a b : Str) : PyData.strOk (a ++ b) = (PyData.strOk a && PyData.strOk b) := by
  unfold PyData.strOk
  rw [PySem.Str.cps_append, Array.all_append]
theorem text_ok : ∀ (ts : List Str) (k : Nat) (acc : Str), PyData.strOk acc = true → (∀ t ∈ ts, PyData.strOk t = true) → PyData.strOk (textFrom k acc ts) = true
  | [], k, acc, h, _ => h
  | t :: ts, k, acc, h, hs => by
    show PyData.strOk (textFrom (k + 1) (acc ++ (if k > 0 then ", " else "" : String) ++ t) ts) = true
    refine text_ok ts (k + 1) _ ?_ fun x hx => hs x (List.mem_cons_of_mem _ hx)
    rw [strOk_app, strOk_app, h, hs t (List.mem_cons_self ..)]
    split <;> decide +kernel
theorem small_ok {i : Int} (h : 0 ≤ i ∧ i ≤ 12) : PyData.strOk (PyData.shown (.int i)) = true := by
  have e : i = 0 ∨ i = 1 ∨ i = 2 ∨ i = 3 ∨ i = 4 ∨ i = 5 ∨ i = 6 ∨ i = 7 ∨ i = 8 ∨ i = 9 ∨ i = 10 ∨ i = 11 ∨ i = 12 := by omega
  rcases e with e | e | e | e | e | e | e | e | e | e | e | e | e <;> subst e <;> (unfold PyData.shown; decide +kernel)
mutual
theorem shown_ok : ∀ d : D, smal d = true → PyData.strOk (pd d).shown = true
  | .int i, h => by
    unfold smal at h
    have z := small_ok (of_decide_eq_true h)
    unfold pd
    exact z
  | .lst xs, h => by
    unfold smal at h
    have z := shown_okAll xs h
    unfold pd PyData.shown listText
    rw [strOk_app, text_ok _ _ _ (by decide +kernel) z]
    decide +kernel
  | .non, h => by unfold smal at h; cases h
  | .bl _, h => by unfold smal at h; cases h
  | .str _, h => by unfold smal at h; cases h
  | .tup _, h => by unfold smal at h; cases h
  | .dk _, h => by unfold smal at h; cases h
  | .dt _, h => by unfold smal at h; cases h
theorem shown_okAll : ∀ ds : List D, smalAll ds = true → ∀ t ∈ PyData.shownAll (pdAll ds), PyData.strOk t = true
  | [], _ => by
    unfold pdAll PyData.shownAll
    exact fun t h => by cases h
  | d :: ds, h => by
    unfold smalAll at h
    rw [Bool.and_eq_true] at h
    have z := shown_ok d h.1
    have w := shown_okAll ds h.2
    unfold pdAll PyData.shownAll
    intro t ht
    rcases List.mem_cons.mp ht with e | ht
    · rw [e]; exact z
    · exact w t ht
end
/-- the text of d may be compared -/
theorem Sh.okS {b c : Nat} {d : D} (h : Sh b c d) : okD (.str (pd d).shown) = true := by
  unfold okD
  rw [Bool.and_eq_true]
  refine ⟨?_, ?_⟩
  · unfold Y.plain
    exact shown_ok d h.s
  · unfold dep
    rfl
theorem ne_str {x y : Str} (h : x = y) : (!(pd (.str x)).eqv (pd (.str y))) = false := by
  subst h
  unfold pd
  simp [PyData.eqv]
theorem eq_str {x y : Str} (h : x = y) : (pd (.str x)).eqv (pd (.str y)) = true := by
  subst h
  unfold pd
  simp [PyData.eqv]
theorem shown_two (a b : D) : (pd (.lst [a, b])).shown = (("[" : Str) ++ (pd a).shown ++ (", " : Str) ++ (pd b).shown ++ ("]" : Str) : Str) := by
  have e : (("[" : Str) ++ (("" : String) : Str) : Str) = ("[" : Str) := by decide +kernel
  simp only [pd, pdAll, PyData.shown, PyData.shownAll]
  show ((((("[" : Str) ++ (("" : String) : Str)) ++ (pd a).shown) ++ (", " : Str) ++ (pd b).shown) ++ ("]" : Str) : Str) = _
  rw [e]
theorem eqv_in : ∀ l : List Int, (pd (inD l)).eqv (pd (inD l)) = true := fun l => by
  have main : ∀ l : List Int, PyData.eqvAll (pdAll (l.map .int)) (pdAll (l.map .int)) = true := fun l => by
    induction l with
    | nil => simp [pdAll, PyData.eqvAll]
    | cons a l ih => simp [pdAll, pd, PyData.eqvAll, PyData.eqv, ih]
  simp only [inD, pd, PyData.eqv]
  exact main l
theorem cut1 (xs : List D) : cutD xs (some 1) none = xs.drop 1 := by
  unfold cutD
  rw [HT.sIx_none, show HT.sIx xs.length 0 (some 1) = min 1 xs.length from HT.sIx_nat _ _ 1]
  cases xs with
  | nil => rfl
  | cons a r =>
    rw [show min 1 (a :: r).length = 1 by rw [List.length_cons]; omega]
    exact List.take_of_length_le (by rw [List.length_drop]; omega)
theorem zip_ints (fs : List Int) (f g : Bool) : zipD (fs.map .int) f (cutD (fs.map .int) (some 1) none) g = (fs.zip (fs.drop 1)).map fun q => (.tup [.int q.1, .int q.2], f && g) := by
  unfold zipD
  rw [cut1, ← List.map_drop, List.zip_map, List.map_map]
  rfl
theorem srt_of {l m : Ar} (p : l.Perm m) (h : m.Pairwise fun p q => ¬ L4 (min q.1 q.2) (max q.1 q.2) q.1 q.2 (min p.1 p.2) (max p.1 p.2) p.1 p.2) : srt l = m :=
  sorted_eq ((srt_perm l).trans p) (srt_sorted l) (h.imp fun {a b} z => by rw [le4, Bool.not_eq_true', decide_eq_false_iff_not]; exact z)
theorem ln_all {α : Type} {tg : WG} {te : WE} {vs : List Nat} {Γ : En} {K : List (List D) → En → Prop} {its : List (D × Bool)} (l : List α) (src : α → D × Bool) (R : List D → Prop)
    (h : ∀ a ∈ l, ∀ (KK : List D → En → Prop), (∀ os, R os → KK os Γ) → tg (src a).1 (src a).2 (wp Γ vs) fun Γ1 => te ex0 Γ1 fun d _ Γ2 => match d with
      | .lst os => os.all flt = true ∧ KK os (rs Γ Γ2 vs)
      | _ => False) (k : ∀ oss, (∀ os ∈ oss, R os) → K oss Γ) (hi : its = l.map src := by rfl) : lnGo tg te vs its [] Γ K := by
  subst hi
  have main : ∀ (l : List α) (acc : List (List D)), (∀ a ∈ l, ∀ (KK : List D → En → Prop), (∀ os, R os → KK os Γ) → tg (src a).1 (src a).2 (wp Γ vs) fun Γ1 => te ex0 Γ1 fun d _ Γ2 => match d with
      | .lst os => os.all flt = true ∧ KK os (rs Γ Γ2 vs)
      | _ => False) → (∀ os ∈ acc, R os) → lnGo tg te vs (l.map src) acc Γ K := by
    intro l
    induction l with
    | nil => exact fun acc _ ha => k acc ha
    | cons a l ih =>
      intro acc h ha
      refine h a List.mem_cons_self (fun os Γ' => lnGo tg te vs (l.map src) (acc ++ [os]) Γ' K) fun os ho => ?_
      refine ih _ (fun b hb => h b (List.mem_cons_of_mem _ hb)) fun o ho2 => ?_
      rcases List.mem_append.mp ho2 with z | z
      · exact ha o z
      · rw [List.mem_singleton.mp z]
        exact ho
  exact main l [] h fun _ z => by cases z
theorem fn_all {i : Nat} {body : WS} {P : DE} (R : List D → Prop) (I : En → Prop)
    (h : ∀ os Γ (N B : En → Prop), R os → I Γ → (∀ Γ', I (und false Γ') → N Γ') → body { nx := N, ct := N, bk := B, rt := fun d fr Γ2 => P.rt d fr (und false Γ2), xe := P.xe } (st (dim false Γ) i (some (.ino (.lst os)))))
    (he : ∀ Γ, I Γ → P.nx Γ) : ∀ (oss : List (List D)) (Γ : En), (∀ os ∈ oss, R os) → I Γ → fnGo i body P oss Γ
  | [], Γ, _, g => he Γ g
  | os :: r, Γ, hr, g => h os Γ _ _ (hr os List.mem_cons_self) g fun Γ' g' => fn_all R I h he r _ (fun o ho => hr o (List.mem_cons_of_mem _ ho)) g'
theorem cut_pre (ns : List Int) : ∃ cs : List Int, cs.length ≤ 6 ∧ cutD (ns.map D.int) none (some 6) = cs.map D.int := by
  refine ⟨(ns.take 6), List.length_take_le .., ?_⟩
  unfold cutD
  rw [HT.sIx_none, show HT.sIx (ns.map D.int).length (ns.map D.int).length (some 6) = min 6 (ns.map D.int).length from HT.sIx_nat _ _ 6, List.drop_zero, ← List.map_take]
  refine congrArg _ ?_
  by_cases h : 6 ≤ ns.length
  · rw [List.length_map, Nat.min_eq_left h]
  · rw [List.length_map, Nat.min_eq_right (by omega), List.take_of_length_le (by omega), List.take_of_length_le (by omega)]
end Q

/-! S, part 1: standings told by counts, once more: what k11 wants. -/
namespace Q
open PySem L2 Y
theorem flp_shift {l : Ar} {c d : Int → Nat} (h : ∀ a ∈ l, (c a.2 : Int) - c a.1 = (d a.2 : Int) - d a.1) : flp l c = flp l d := List.map_congr_left fun a ha => by
  have k := h a ha
  by_cases z : c a.2 = c a.1 + 1
  · rw [if_pos z, if_pos (by omega)]
  · rw [if_neg z, if_neg (by omega)]
theorem cons_shift {l : Ar} {c d : Int → Nat} (h : ∀ a ∈ l, (c a.2 : Int) - c a.1 = (d a.2 : Int) - d a.1) (k : cons l c) : cons l d := fun a ha => by
  have := h a ha
  rcases k a ha with z | z
  · left; omega
  · right; omega
theorem flp_const (l : Ar) (m : Nat) : flp l (fun _ => m) = l := by
  rw [flp_shift (d := fun _ => 0) fun a _ => by omega]
  exact flp_zero l
theorem cons_const (l : Ar) (m : Nat) : cons l fun _ => m := fun a _ => .inl rfl
theorem arg_max (f : Int → Nat) : ∀ {L : List Int}, L ≠ [] → ∃ x ∈ L, ∀ y ∈ L, f y ≤ f x
  | [], h => absurd rfl h
  | a :: L, _ => by
    by_cases z : L = []
    · subst z
      exact ⟨a, List.mem_cons_self, fun y hy => by rw [List.mem_singleton.mp hy]; exact Nat.le_refl _⟩
    · obtain ⟨x, hx, k⟩ := arg_max f z
      by_cases w : f a ≤ f x
      · exact ⟨x, List.mem_cons_of_mem _ hx, fun y hy => by
          rcases List.mem_cons.mp hy with e | e
          · rw [e]; exact w
          · exact k y e⟩
      · exact ⟨a, List.mem_cons_self, fun y hy => by
          rcases List.mem_cons.mp hy with e | e
          · rw [e]; exact Nat.le_refl _
          · have := k y e; omega⟩
theorem arg_min (f : Int → Nat) : ∀ {L : List Int}, L ≠ [] → ∃ x ∈ L, ∀ y ∈ L, f x ≤ f y
  | [], h => absurd rfl h
  | a :: L, _ => by
    by_cases z : L = []
    · subst z
      exact ⟨a, List.mem_cons_self, fun y hy => by rw [List.mem_singleton.mp hy]; exact Nat.le_refl _⟩
    · obtain ⟨x, hx, k⟩ := arg_min f z
      by_cases w : f x ≤ f a
      · exact ⟨x, List.mem_cons_of_mem _ hx, fun y hy => by
          rcases List.mem_cons.mp hy with e | e
          · rw [e]; exact w
          · exact k y e⟩
      · exact ⟨a, List.mem_cons_self, fun y hy => by
          rcases List.mem_cons.mp hy with e | e
          · rw [e]; exact Nat.le_refl _
          · have := k y e; omega⟩
section
variable {n : Int} {l : Ar} {c e : Int → Nat}
/-- while turns are left, one of the points that still have some may take one -/
theorem next_may (o : Ok n l) (hb : brd n l = []) (hc : cons l c) (he : cons l e) (le : ∀ k, 1 ≤ k → k ≤ n → c k ≤ e k) {j : Int} (j1 : 1 ≤ j) (j2 : j ≤ n) (lt : c j < e j) : ∃ x, x ∈ mayI n (flp l c) ∧ c x < e x := by
  obtain ⟨x0, hx0, mx⟩ := arg_max (fun k => e k - c k) (L := pts n) (fun z => by have := pts_mem.mpr ⟨j1, j2⟩; rw [z] at this; cases this)
  have rf := (o.flp c).rng
  have pos : c x0 < e x0 := by have := mx j (pts_mem.mpr ⟨j1, j2⟩); omega
  generalize hL : (pts n).filter (fun k => decide (e k - c k = e x0 - c x0)) = left
  have inL : ∀ {k}, k ∈ left ↔ (1 ≤ k ∧ k ≤ n) ∧ e k - c k = e x0 - c x0 := fun {k} => by
    rw [← hL, List.mem_filter, pts_mem, decide_eq_true_eq]
  have x0L : x0 ∈ left := inL.mpr ⟨pts_mem.mp hx0, rfl⟩
  by_cases z : endsOf (flp l c) left = []
  · obtain ⟨T, hT⟩ := all_onw rf x0
    have g := all_good rf z _ T x0 hT (Nat.le_refl _) x0L
    have : x0 ∈ brd n (flp l c) := (brd_mem rf).mpr ⟨pts_mem.mp hx0, g⟩
    rw [free_flp o hc hb] at this
    cases this
  · obtain ⟨x, hx⟩ := List.exists_mem_of_ne_nil _ z
    obtain ⟨hx1, hx2⟩ := mem_ends_of.mp hx
    obtain ⟨xr, xe⟩ := inL.mp hx1
    refine ⟨x, may_mem.mpr ⟨xr, fun y => ?_⟩, by omega⟩
    obtain ⟨p, hp, ep⟩ := List.mem_map.mp y
    refine hx2 p hp ep (inL.mpr ?_)
    have pr := rf p hp
    refine ⟨pr.2.1, ?_⟩
    have m := mx p.2 (pts_mem.mpr pr.2.1)
    have l1 := le p.2 pr.2.1.1 pr.2.1.2
    have l2 := le x xr.1 xr.2
    rcases flp_mem hc (a := p.1) (b := p.2) hp with ⟨q, w⟩ | ⟨q, w⟩
    · have := he _ q
      simp only at this
      rw [ep] at this w
      omega
    · have := he _ q
      simp only at this
      rw [ep] at this w
      omega
theorem sum_full {m : Nat} (le : ∀ k, 1 ≤ k → k ≤ n → c k ≤ m) (h : n.toNat * m ≤ sumc n c) {k : Int} (k1 : 1 ≤ k) (k2 : k ≤ n) : c k = m := by
  have := le k k1 k2
  by_cases z : c k = m
  · exact z
  · exfalso
    have a : sumc n (inc c k) ≤ ((pts n).map fun _ => m).sum := sum_le fun j hj => by
      have r := pts_mem.mp hj
      have := le j r.1 r.2
      by_cases e : j = k
      · subst e; rw [inc_at]; omega
      · rw [inc_ne c e]; exact this
    rw [sum_const, pts_len, sumc_inc c k1 k2] at a
    omega
theorem mid (hc : cons l c) {a b : Int} (h : Rch l a b) : ∀ v, c a ≤ v → v ≤ c b → ∃ k, Rch l a k ∧ c k = v := by
  induction h with
  | refl => exact fun v h1 h2 => ⟨_, .refl _, by omega⟩
  | @step b d h e ih =>
    intro v h1 h2
    by_cases z : v ≤ c b
    · exact ih v h1 z
    · refine ⟨d, .step h e, ?_⟩
      rcases e with e | e
      · have := hc _ e
        simp only at this
        omega
      · have := hc _ e
        simp only at this
        omega
theorem rch_rng (hr : ∀ p ∈ l, inR n p) {a b : Int} (ha : 1 ≤ a ∧ a ≤ n) (h : Rch l a b) : 1 ≤ b ∧ b ≤ n := by
  induction h with
  | refl => exact ha
  | step h e ih =>
    rcases e with e | e
    · exact (hr _ e).2.1
    · exact (hr _ e).1
/-- none is ahead of another one by more turns than walks allow -/
theorem near (o : Ok n l) (hc : cons l c) {s : Int} (s1 : 1 ≤ s) (s2 : s ≤ n) (z : c s = 0) {k : Int} (k1 : 1 ≤ k) (k2 : k ≤ n) : c k + 1 ≤ n.toNat := by
  have h : Rch l s k := (o.con s s1 s2).symm.trans (o.con k k1 k2)
  have main : ∀ j, j ≤ c k → ((pts n).filter fun x => decide (j ≤ c x)).length + j ≤ n.toNat := fun j => by
    induction j with
    | zero =>
      intro _
      have := List.length_filter_le (fun x => decide (0 ≤ c x)) (pts n)
      rw [pts_len] at this
      omega
    | succ j ih =>
      intro hj
      have ih := ih (by omega)
      obtain ⟨x, hx, ex⟩ := mid hc h j (by omega) (by omega)
      have xr := rch_rng o.rng ⟨s1, s2⟩ hx
      have := filter_lt (p := fun x => decide (j + 1 ≤ c x)) (q := fun x => decide (j ≤ c x)) (l := pts n) (fun y _ hy => decide_eq_true (by have := of_decide_eq_true hy; omega)) (pts_mem.mpr xr) (decide_eq_false (by omega)) (decide_eq_true (by omega))
      omega
  have a := main (c k) (Nat.le_refl _)
  have b : 0 < ((pts n).filter fun x => decide (c k ≤ c x)).length := List.length_pos_iff.mpr fun e => by
    have : k ∈ (pts n).filter fun x => decide (c k ≤ c x) := List.mem_filter.mpr ⟨pts_mem.mpr ⟨k1, k2⟩, decide_eq_true (Nat.le_refl _)⟩
    rw [e] at this
    cases this
  omega
theorem near_sum (o : Ok n l) (hc : cons l c) {s : Int} (s1 : 1 ≤ s) (s2 : s ≤ n) (z : c s = 0) : sumc n c < n.toNat * n.toNat + 1 := by
  have a : sumc n c ≤ ((pts n).map fun _ => n.toNat).sum := sum_le fun j hj => by
    have r := pts_mem.mp hj
    have := near o hc s1 s2 z r.1 r.2
    omega
  rw [sum_const, pts_len] at a
  omega
/-- points that may take a turn, in any order -/
theorem legal_may : ∀ {ts : List Int} {l : Ar}, ts.Nodup → (∀ t ∈ ts, t ∈ mayI n l) → legal n l ts
  | [], _, _, _ => trivial
  | t :: ts, l, nd, h => by
    have nd := List.nodup_cons.mp nd
    refine ⟨h t List.mem_cons_self, legal_may nd.2 fun u hu => ?_⟩
    have k := may_mem.mp (h u (List.mem_cons_of_mem _ hu))
    refine may_mem.mpr ⟨k.1, fun z => ?_⟩
    obtain ⟨p, hp, ep⟩ := List.mem_map.mp z
    obtain ⟨a, ha, ea⟩ := List.mem_map.mp hp
    by_cases w : a.2 = t
    · rw [if_pos w] at ea
      rw [← ea] at ep
      exact nd.1 (by rw [← w, show a.2 = u from ep]; exact hu)
    · rw [if_neg w] at ea
      rw [← ea] at ep
      exact k.2 (List.mem_map.mpr ⟨a, ha, ep⟩)
theorem ply_perm (o : Ok n l) {ts us : List Int} (h : legal n l ts) (k : legal n l us) (p : ts.Perm us) : ply l ts = ply l us := by
  have h0 : legal n (flp l fun _ => 0) ts := by rw [flp_zero]; exact h
  have k0 : legal n (flp l fun _ => 0) us := by rw [flp_zero]; exact k
  obtain ⟨c, _, e1, f1⟩ := legal_flp o.rng (cons_zero l) h0
  obtain ⟨d, _, e2, f2⟩ := legal_flp o.rng (cons_zero l) k0
  rw [flp_zero] at e1 e2
  rw [e1, e2]
  refine flp_shift fun a _ => ?_
  have := f1 a.1
  have := f1 a.2
  have := f2 a.1
  have := f2 a.2
  have := p.count_eq a.1
  have := p.count_eq a.2
  omega
/-- back again -/
theorem flp_back (o : Ok n l) (hc : cons l c) {M : Nat} (hM : ∀ k, 1 ≤ k → k ≤ n → c k ≤ M) : flp (flp l c) (fun k => M - c k) = l ∧ cons (flp l c) fun k => M - c k := by
  have one : ∀ a ∈ l, (let a' := if c a.2 = c a.1 + 1 then (a.2, a.1) else a; (if M - c a'.2 = M - c a'.1 + 1 then (a'.2, a'.1) else a') = a ∧ (M - c a'.2 = M - c a'.1 ∨ M - c a'.2 = M - c a'.1 + 1)) := fun a ha => by
    obtain ⟨u, v⟩ := a
    have r := o.rng _ ha
    have m1 := hM u r.1.1 r.1.2
    have m2 := hM v r.2.1.1 r.2.1.2
    have k : c v = c u ∨ c v = c u + 1 := hc _ ha
    show (if M - c (if c v = c u + 1 then (v, u) else (u, v)).2 = M - c (if c v = c u + 1 then (v, u) else (u, v)).1 + 1 then ((if c v = c u + 1 then (v, u) else (u, v)).2, (if c v = c u + 1 then (v, u) else (u, v)).1) else (if c v = c u + 1 then (v, u) else (u, v))) = (u, v) ∧ (M - c (if c v = c u + 1 then (v, u) else (u, v)).2 = M - c (if c v = c u + 1 then (v, u) else (u, v)).1 ∨ M - c (if c v = c u + 1 then (v, u) else (u, v)).2 = M - c (if c v = c u + 1 then (v, u) else (u, v)).1 + 1)
    by_cases z : c v = c u + 1
    · rw [if_pos z]
      show (if M - c u = M - c v + 1 then (u, v) else (v, u)) = (u, v) ∧ _
      rw [if_pos (by omega)]
      exact ⟨rfl, .inr (by show M - c u = M - c v + 1; omega)⟩
    · rw [if_neg z]
      show (if M - c v = M - c u + 1 then (v, u) else (u, v)) = (u, v) ∧ _
      rw [if_neg (by omega)]
      exact ⟨rfl, .inl (by show M - c v = M - c u; omega)⟩
  constructor
  · unfold flp
    rw [List.map_map]
    exact map_id_of _ _ fun a ha => (one a ha).1
  · intro a ha
    obtain ⟨q, hq, e⟩ := List.mem_map.mp ha
    subst e
    exact (one q hq).2
end
theorem ply_app (l : Ar) (ts us : List Int) : ply l (ts ++ us) = ply (ply l ts) us := List.foldl_append ..
theorem legal_app {n : Int} : ∀ {ts us : List Int} {l : Ar}, legal n l ts → legal n (ply l ts) us → legal n l (ts ++ us)
  | [], _, _, _, h => h
  | t :: ts, us, l, h, k => ⟨h.1, legal_app h.2 k⟩
end Q

/-! Y: part 19: d.get(k, x); calls that change a new list. -/
namespace Y
open PySem PySem.Spec PyProof.Rows L2
section
variable {X : Cx} {E : XK} {e a b c : Expr} {es : List Expr} {pos p : Pos} {x : Str} {wa wb wc : WE} {va vb : WV} {k j : Nat} {ps : List Str} {wr : WA}
@[reducible] def isDk : Option (D × Bool) → Prop
  | some (.dk _, _) => True
  | _ => False
/-- d.get(k, x) -/
@[reducible] def wGet (va : WV) (wk wd : WE) : WE := fun ex Γ Q => va ex Γ fun vw Γ1 => isDk (lkV Γ1 vw) ∧ wk ex Γ1 fun y _ Γ2 => wd ex Γ2 fun d fd Γ3 => match lkV Γ3 vw with
  | some (.dk kvs, fr) => (match keyOf y with
    | some k => (match lookD kvs k with
      | some z => Q z (fr || flt z) Γ3
      | none => Q d fd Γ3)
    | none => False)
  | _ => False
theorem pw_get {apos : Pos} (hu : X.A.units + 1 < cLine) (ha : PWV X E a va) (hb : PWE X E b wb) (hc : PWE X E c wc)
    (hbase : attributeBase a "get" X.env (eval a X.env) = eval a X.env := by rfl)
    (hfew : ((backTo pos (starEach [b, c] X.env)).all (fun x => !x.1) && (backToKw pos (keywordEach [] X.env)).all (fun x => x.1.isSome) && decide (([b, c] : List Expr).length + ([] : List Keyword).length + (if ([] : List Keyword).isEmpty then 0 else 1) < 30)) = true := by rfl)
    (hline : (apos.endLine == pos.line) = true := by rfl) (htr : backTo pos (starEach [b, c] X.env) = [(false, eval b X.env), (false, eval c X.env)] := by rfl) :
    PWE X E (.Call (.Attribute a "get" apos) [b, c] [] pos) (wGet va wb wc) := by
  obtain ⟨ta, pa, ka⟩ := ha
  obtain ⟨tb, pb, kb⟩ := hb
  obtain ⟨tc, pc, kc⟩ := hc
  refine ⟨_, pe_dget2 hu pa pb pc ⟨hbase, hfew, hline, htr⟩, fun R F H σ Γ ex Q Qt g h eq w => ?_⟩
  refine ka R F H σ Γ ex _ _ g h (fun v F1 H1 Γ1 vw h1 x1 r1 w1 => ?_) w
  obtain ⟨hk, w1⟩ := w1
  cases l1 : lkV Γ1 vw with
  | none => rw [l1] at hk; exact hk.elim
  | some q1 =>
    obtain ⟨d1, f1⟩ := q1
    cases d1 with
    | dk kvs1 =>
      obtain ⟨p1, vs1, e1, e2, _⟩ := vw_sees h1 r1 l1
      refine ⟨p1, e1, .inl ⟨vs1, e2.rd⟩, ?_⟩
      refine kb R F1 H1 σ Γ1 ex _ _ g h1 (fun y F2 H2 Γ2 dy fy h2 x2 r2 w2 => kc R F2 H2 σ Γ2 ex _ _ g h2 (fun z F3 H3 Γ3 d fd h3 x3 r3 w3 => ?_) w2) w1
      cases l : lkV Γ3 vw with
      | none => simp only [l] at w3
      | some q =>
        obtain ⟨d3, f3⟩ := q
        cases d3 with
        | dk kvs =>
          simp only [l] at w3
          cases q : keyOf dy with
          | none => simp only [q] at w3
          | some ky =>
            simp only [q] at w3
            obtain ⟨p3, vs3, e3, e4, r⟩ := vw_sees h3 (r1.mono (x2.trans x3).ex) l
            have ep : p3 = p1 := by
              rw [e1] at e3
              cases e3
              rfl
            subst ep
            have ey := keyOf_rp q r2
            subst ey
            have vl := rpK_val (k := ky) r
            refine ⟨valV vs3 ky, .inl ⟨vs3, ky, e4.rd, rfl, rfl⟩, ?_⟩
            cases q2 : lookD kvs ky with
            | none =>
              simp only [q2] at w3 vl
              have z0 : valV vs3 ky = none := RpO.away (F := fF R F3 f3) (o := valV vs3 ky) vl
              rw [z0]
              exact eq z F3 H3 Γ3 d fd h3 ((x1.trans x2).trans x3) r3 w3
            | some z2 =>
              simp only [q2] at w3 vl
              obtain ⟨v2, e5, rz⟩ := vl.there
              rw [e5]
              exact eq v2 F3 H3 Γ3 z2 _ h3 ((x1.trans x2).trans x3) (Rp.fq (R := R) rz) w3
        | _ => simp only [l] at w3
    | _ => rw [l1] at hk; exact hk.elim
/-- f(g(..), ..) : f changes the new list that g makes -/
@[reducible] def wCallMN (fs : FSM) (we : WE) (wr : WA) : WE := fun ex Γ Q => we ex Γ fun o _ Γ1 => match o with
  | .lst os => os.all flt = true ∧ wr ex Γ1 fun ds Γ2 => fs os (ds.map (·.1)) fun _ d fr => Q d fr Γ2
  | _ => False
theorem pw_cmn {fs : FSM} (C : CalD X.prog X.w X.K X.mg X.base j x ps (spM fs)) (hgd : X.A.guards = some []) (hr : Room k X.A) (hx : Passes (L2.CX X.prog X.w) X E) (he : PWN X E e wa) (ha : PWA X E es wr) (hj : j ≤ k := by decide)
    (hg : Gl X x := by rfl) (hdb : (x == ("__debug__" : Str)) = false := by decide) (hs : starEach (e :: es) X.env = (false, eval e X.env) :: starEach es X.env := by rfl) (hpl : (backTo pos (starEach es X.env)).any (·.1) = false := by rfl) :
    PWE X E (.Call (.Name x p) (e :: es) [] pos) (wCallMN fs wa wr) := by
  obtain ⟨f, fd, h1, h2, h3, h4⟩ := C.ex
  obtain ⟨t, pt, kt⟩ := he
  obtain ⟨u, pu, ku⟩ := ha
  refine ⟨_, pe_fnG h1 hgd (hr.mono hj) h2 h3 h4 hx (pa_cons pt pu hs) hg hdb hs hpl, fun R F H σ Γ ex Q Qt g h eq w => ?_⟩
  refine kt R F H σ Γ ex _ _ g h (fun q F1 H1 Γ1 o f1 h1 x1 hq so no w1 => ?_) w
  have z0 := (h.newO (o := .lst []) hq).2.2.1
  cases o with
  | lst os =>
    obtain ⟨hf, w1⟩ := w1
    obtain ⟨q', eq', f1, _, us, e1, r1⟩ := so
    cases eq'
    refine ku R F1 H1 σ Γ1 ex _ _ g h1 (fun vs F2 H2 Γ2 ds h2 x2 r2 w2 => ?_) w1
    have e2 : H2 q = some (.lst us) := x2.keep q _ e1 no
    have n2 : ¬ Ow σ Γ2 q := fun z => no (x2.ow q z)
    have f2 : F2 q = none := by
      cases z : F2 q with
      | none => rfl
      | some u =>
        rcases x2.new q u z with y | y | y
        · rw [f1] at y; cases y
        · rw [e1] at y; cases y
        · exact absurd y no
    show spM fs ((.ref q :: vs) ++ []) H2 Qt E
    rw [List.append_nil]
    refine ⟨q, us, vs, F2, os, ds.map (·.1), _, rfl, e2, f2, flt_all hf r1, h2.sub, r2.plain, w2, fun v F3 H3 d fr us' os' kp xF sub new fp hp ro r q' => ?_⟩
    have xH : Ex H2 (upd H3 q (.lst us)) := fun a o e => by
      by_cases ha : a = q
      · rw [ha, upd_same, ← e2, ← ha, e]
      · rw [upd_ne ha]
        exact kp a o e ha
    have sub2 : ∀ a u, F3 a = some u → RdD (upd H3 q (.lst us)) a u := fun a u e => by
      have ne : a ≠ q := fun z => by rw [z, fp] at e; cases e
      rcases sub a u e with y | ⟨y, o, y2⟩
      · exact .inl (by rw [upd_ne ne]; exact y)
      · exact .inr ⟨y, o, by rw [upd_ne ne]; exact y2⟩
    obtain ⟨h3, r3⟩ := h2.called xH xF sub2 new r
    have h4 := h3.poke (u := .lst us') fp n2 z0
    have x4 := Nx.poke (u := .lst us') ((x1.trans x2).trans (.grow xF xH new)) hq
    rw [upd_upd, upd_self hp] at h4 x4
    exact eq v F3 H3 Γ2 d fr h4 x4 r3 q'
  | _ => exact w1.elim
end
end Y

/-! Y: part 20: what was made behind the thing that is spoiled stays. -/
namespace Y
open PySem PySem.Spec PyProof.Rows L2
/-- the frame behind told -/
def rX (R : Rl) (F H0 F1 H1 : Hp) (told : D) : Rl := ⟨R.K, H1, F1, R.io, fun v d => (d = told ∧ Rp (nw H0 F1) v d) ∨ (d ≠ told ∧ Rp F v d)⟩
@[reducible] def dxS : Option Sl → Option Sl
  | some (.old d) => some (.old d)
  | some (.raw v) => some (.raw v)
  | some (.ino o) => some (.ino o)
  | _ => none
@[reducible] def dimX (i : Nat) (d : D) (Γ : En) : En := st (mpS dxS Γ) i (some (.old d))
def clr (told : D) (i : Nat) (Γ : En) : Prop := ∀ j d, j ≠ i → gt Γ j = some (.old d) → d ≠ told
section
variable {R : Rl} {F H0 F1 H1 F' H : Hp} {σ0 σ1 σ : L2.St} {Γ0 Γ1 Γ : En} {told : D} {i : Nat}
theorem gt_dx {j : Nat} : gt (mpS dxS Γ) j = dxS (gt Γ j) := gt_map rfl
theorem Hd.rebaseX (h0 : Hd R F H0 σ0 Γ0) (h : Hd (R.from F H0 R.io) F1 H1 σ Γ) (e : gt Γ i = some (.dat told true)) (c : clr told i Γ) : Hd (rX R F H0 F1 H1 told) F1 H1 σ (dimX i told Γ) where
  sub := h.sub
  base := fun a o e _ => e
  f0 := fun a u e => e
  new := fun a u e => .inl e
  iof := fun a e => ⟨(h.iof a e).1, (h.iof a e).2.2, (h.iof a e).2.2⟩
  len := by unfold dimX; rw [st_length, mpS_length]; exact h.len
  sl := fun j s es => by
    by_cases hj : j = i
    · subst hj
      have hl := gt_lt es
      unfold dimX at es hl
      rw [st_length] at hl
      rw [gt_st_same hl] at es
      cases es
      obtain ⟨v, e1, ok⟩ := h.sl j _ e
      exact ⟨v, e1, Rp.mono nw_ex ok, .inl ⟨rfl, ok⟩⟩
    · unfold dimX at es
      rw [gt_st_ne hj, gt_dx] at es
      cases q : gt Γ j with
      | none => rw [q] at es; cases es
      | some t =>
        rw [q] at es
        obtain ⟨v, e1, ok⟩ := h.sl j t q
        refine ⟨v, e1, ?_⟩
        cases t with
        | dat d fr => cases es
        | old d => cases es; exact ⟨Rp.mono h.f0 ok.1, .inr ⟨c j d hj q, ok.1⟩⟩
        | raw u => cases es; exact ok
        | ino o =>
          cases es
          obtain ⟨p, e1, e2, t⟩ := ok
          exact ⟨p, e1, e2, t⟩
        | own _ _ => cases es
        | scr _ => cases es
  sep := fun a b s t p e1 e2 o1 o2 p1 p2 => by
    have key : ∀ {j : Nat} {s : Sl}, gt (dimX i told Γ) j = some s → owny s = true → ∃ t, gt Γ j = some t ∧ owny t = true := fun {j s} es o => by
      by_cases hj : j = i
      · subst hj
        have hl := gt_lt es
        unfold dimX at es hl
        rw [st_length] at hl
        rw [gt_st_same hl] at es
        cases es
        cases o
      · unfold dimX at es
        rw [gt_st_ne hj, gt_dx] at es
        cases q : gt Γ j with
        | none => rw [q] at es; cases es
        | some t =>
          rw [q] at es
          cases t with
          | ino o => exact ⟨_, rfl, rfl⟩
          | dat d fr => cases es
          | old d => cases es; cases o
          | raw u => cases es; cases o
          | own _ _ => cases es
          | scr _ => cases es
    obtain ⟨t1, a1, b1⟩ := key e1 o1
    obtain ⟨t2, a2, b2⟩ := key e2 o2
    exact h.sep a b t1 t2 p a1 a2 b1 b2 p1 p2
theorem Hd.dropX (h : Hd (rX R F H0 F1 H1 told) F' H σ Γ) : Hd ((R.from F H0 R.io).from F1 H1 (R.from F H0 R.io).io) F' H σ Γ where
  sub := h.sub
  base := h.base
  f0 := h.f0
  new := h.new
  iof := h.iof
  len := h.len
  sl := fun j s e => by
    obtain ⟨v, e1, ok⟩ := h.sl j s e
    refine ⟨v, e1, ?_⟩
    cases s with
    | old d => exact ⟨ok.1, trivial⟩
    | dat d fr => exact ok
    | raw u => exact ok
    | ino o => exact ok
    | own _ _ => exact ok
    | scr _ => exact ok
  sep := h.sep
end
abbrev WB2 := D → DE → En → Prop
def SSB2 (X : Cx) (E : XK) (ts : TS) (w : WB2) : Prop := ∀ (R : Rl) (F H0 : Hp) (σ0 : L2.St) (Γ0 : En) (F1 H1 : Hp) (σ1 : L2.St) (Γ1 : En) (told : D) (F' H : Hp) (σ : L2.St) (Γ : En) (P : DE) (T : Ends), Go X R E P.xe → Hd R F H0 σ0 Γ0 → Hd (R.from F H0 R.io) F1 H1 σ1 Γ1 → Hd (rX R F H0 F1 H1 told) F' H σ Γ → Sim R F P T → w told P Γ → ts T σ H
def PWB2 (X : Cx) (E : XK) (s : List Stmt) (w : WB2) : Prop := ∃ ts : TS, PSs X s ts ∧ SSB2 X E ts w
@[reducible] def wIn2 (i : Nat) (w : WB2) : WB := fun P Γ => ∃ told, gt Γ i = some (.dat told true) ∧ clr told i Γ ∧ w told P (dimX i told Γ)
section
variable {X : Cx} {E : XK} {s : Stmt} {rest : List Stmt} {wt : WS} {wu : WB2}
theorem pwb_in2 (i : Nat) {l : List Stmt} {w : WB2} (h : PWB2 X E l w) : PWB X E l (wIn2 i w) := by
  obtain ⟨t, pt, kt⟩ := h
  refine ⟨t, pt, fun R F H0 σ0 Γ0 F' H σ Γ P T g h h' s w => ?_⟩
  obtain ⟨told, e, c, w⟩ := w
  exact kt R F H0 σ0 Γ0 F' H σ Γ told F' H σ (dimX i told Γ) P T g h h' (Hd.rebaseX h h' e c) s w
abbrev endB2 (P : DE) (n : En → Prop) : DE := { nx := n, rt := fun d fr Γ2 => P.rt d fr (und true (und true Γ2)), bk := fun Γ2 => P.bk (und true (und true Γ2)), ct := fun Γ2 => P.ct (und true (und true Γ2)), xe := P.xe }
@[reducible] def wB2Seq (t : WS) (u : WB2) : WB2 := fun told P Γ => t (endB2 P (u told P)) Γ
theorem pwb2_cons (h1 : PWS X E s wt) (h2 : PWB2 X E rest wu) : PWB2 X E (s :: rest) (wB2Seq wt wu) := by
  obtain ⟨t, pt, kt⟩ := h1
  obtain ⟨u, pu, ku⟩ := h2
  refine ⟨_, pss_cons pt pu, fun R F H0 σ0 Γ0 F1 H1 σ1 Γ1 told F' H σ Γ P T g h h1 h' s w => ?_⟩
  have x : Ex F F' := fun a u e => h'.f0 a u (h1.f0 a u e)
  have g1 := g.rebase h ioTrue
  have g2 := g1.rebase h1 (io := R.io) (keep := true) rfl
  refine kt (rX R F H0 F1 H1 told) F' H σ Γ (endB2 P (wu told P)) { T with nx := u T } ⟨g2.K, g2.lk⟩ h' ?_ w
  have back : ∀ {F2 H2 : Hp} {σ2 : L2.St} {Γ2 : En}, Hd (rX R F H0 F1 H1 told) F2 H2 σ2 Γ2 → Hd R F2 H2 σ2 (und true (und true Γ2)) := fun hh => h.unbase (h1.unbase hh.dropX (keep := true) rfl) ioTrue
  have bf : ∀ {F2 : Hp} {fr : Bool}, Ex (fF (rX R F H0 F1 H1 told) F2 fr) (fF R F2 fr) := fun {F2 fr} a o e => fF_back h a o (fF_back (R := R.from F H0 R.io) h1 (io := R.io) a o e)
  exact ⟨fun F2 H2 σ2 Γ2 hh xx q => ku R F H0 σ0 Γ0 F1 H1 σ1 Γ1 told F2 H2 σ2 Γ2 P T g h h1 hh s q, fun v F2 H2 σ2 Γ2 d fr hh xx rv q => s.rt v F2 H2 σ2 (und true (und true Γ2)) d fr (back hh) (x.trans xx) (Rp.mono bf rv) q,
    fun F2 H2 σ2 Γ2 hh xx q => s.bk F2 H2 σ2 (und true (und true Γ2)) (back hh) (x.trans xx) q, fun F2 H2 σ2 Γ2 hh xx q => s.ct F2 H2 σ2 (und true (und true Γ2)) (back hh) (x.trans xx) q⟩
@[reducible] def spS : Option Sl → Option Sl
  | some (.old d) => some (.old d)
  | some (.dat d true) => some (.old d)
  | some (.dat d false) => some (.dat d false)
  | some (.raw v) => some (.raw v)
  | some (.ino o) => some (.ino o)
  | _ => none
theorem gt_sp {Γ : En} {j : Nat} : gt (mpS spS Γ) j = spS (gt Γ j) := gt_map rfl
@[reducible] def wSpX (i : Nat) (w : WJ) : WB2 := fun told P Γ => gt Γ i = some (.old told) ∧ clr told i Γ ∧ w 0 [] P (st (mpS spS Γ) i (some (.dat told true)))
theorem pwb2_spX (i : Nat) {l : List Stmt} {w : WJ} (h : PWJ X E l w) : PWB2 X E l (wSpX i w) := by
  obtain ⟨t, pt, kt⟩ := h
  refine ⟨t, pt, fun R F H0 σ0 Γ0 F1 H1 σ1 Γ1 told F' H σ Γ P T g h h1 h' s w => ?_⟩
  obtain ⟨ei, c, w⟩ := w
  -- what is kept: what stood, what is new behind told
  let Fb : Hp := fun a => match F a with
    | some u => some u
    | none => nw H1 F' a
  let Hb : Hp := fun a => match H0 a with
    | some o => some o
    | none => match nw H1 F' a with
      | some _ => H a
      | none => none
  have nwE : ∀ {a : Addr} {u : HO}, nw H1 F' a = some u → H1 a = none ∧ F' a = some u := fun {a u} e => by
    unfold nw at e
    cases q : H1 a with
    | none => rw [q] at e; exact ⟨rfl, e⟩
    | some o => rw [q] at e; cases e
  have nF : ∀ {a : Addr} {u : HO}, nw H1 F' a = some u → F a = none := fun {a u} e => by
    cases q : F a with
    | none => rfl
    | some z => exact absurd (nwE e).1 (h1.sub a z (h1.f0 a z q)).there
  have fbF : ∀ {a : Addr} {u : HO}, F a = some u → Fb a = some u := fun {a u} e => by
    show (match F a with | some u => some u | none => nw H1 F' a) = some u
    rw [e]
  have fbN : ∀ {a : Addr} {u : HO}, nw H1 F' a = some u → Fb a = some u := fun {a u} e => by
    show (match F a with | some u => some u | none => nw H1 F' a) = some u
    rw [nF e]
    exact e
  have hbH : ∀ {a : Addr} {o : HO}, H0 a = some o → Hb a = some o := fun {a o} e => by
    show (match H0 a with | some o => some o | none => match nw H1 F' a with | some _ => H a | none => none) = some o
    rw [e]
  have h0n : ∀ {a : Addr}, H1 a = none → H0 a = none := fun {a} e => h1.h0n e
  have hbN : ∀ {a : Addr} {u : HO}, nw H1 F' a = some u → Hb a = H a := fun {a u} e => by
    show (match H0 a with | some o => some o | none => match nw H1 F' a with | some _ => H a | none => none) = H a
    rw [h0n (nwE e).1, e]
  have hbO : ∀ {a : Addr}, H0 a = none → nw H1 F' a = none → Hb a = none := fun {a} e1 e2 => by
    show (match H0 a with | some o => some o | none => match nw H1 F' a with | some _ => H a | none => none) = none
    rw [e1, e2]
  have xF : Ex F Fb := fun a u e => fbF e
  have hb : Hd R Fb Hb σ0 Γ0 := h.grow (fun a o e => hbH e) xF (fun a u e => by
      cases q : F a with
      | some z =>
        have e' := fbF q
        rw [e] at e'
        cases e'
        exact (h.sub a _ q).ex fun a o e => hbH e
      | none =>
        have e' : nw H1 F' a = some u := by
          have z : (match F a with | some u => some u | none => nw H1 F' a) = some u := e
          rw [q] at z
          exact z
        have r := h'.sub a u (nwE e').2
        rcases r with r | ⟨r1, o, r2⟩
        · exact .inl ((hbN e').trans r)
        · exact .inr ⟨r1, o, (hbN e').trans r2⟩) fun a u e => by
      cases q : F a with
      | some z =>
        have e' := fbF q
        rw [e] at e'
        exact .inl (by rw [e'])
      | none =>
        have e' : nw H1 F' a = some u := by
          have z : (match F a with | some u => some u | none => nw H1 F' a) = some u := e
          rw [q] at z
          exact z
        exact .inr (h0n (nwE e').1)
  have js : JS R Fb Hb (nw H0 F1) H σ (st (mpS spS Γ) i (some (.dat told true))) 0 [] := {
    base := fun a o e n => by
      cases q : H0 a with
      | some z =>
        have e' := hbH q
        rw [e] at e'
        cases e'
        exact h'.base a _ (h1.base a _ q n) n
      | none =>
        cases q2 : nw H1 F' a with
        | some z => rw [← hbN q2]; exact e
        | none => rw [hbO q q2] at e; cases e
    iof := fun a e => (h'.iof a e).2.2
    len := by rw [st_length, mpS_length]; exact h'.len
    sl := fun j sl es => by
      by_cases hj : j = i
      · subst hj
        have hl := gt_lt es
        rw [st_length] at hl
        rw [gt_st_same hl] at es
        cases es
        obtain ⟨v, e1, ok⟩ := h'.sl j _ ei
        refine ⟨v, e1, fun hf => flt_rp hf ok.1, fun _ => ?_⟩
        rcases ok.2 with ⟨_, r⟩ | ⟨z, _⟩
        · exact r
        · exact absurd rfl z
      · rw [gt_st_ne hj, gt_sp] at es
        cases q : gt Γ j with
        | none => rw [q] at es; cases es
        | some t =>
          rw [q] at es
          obtain ⟨v, e1, ok⟩ := h'.sl j t q
          refine ⟨v, e1, ?_⟩
          cases t with
          | dat d fr => cases fr with
            | true =>
              cases es
              exact Rp.mono (fun a u e => fbN e) ok
            | false =>
              cases es
              exact ⟨fun hf => flt_rp hf ok, fun z => by cases z⟩
          | old d =>
            cases es
            rcases ok.2 with ⟨z, _⟩ | ⟨_, r⟩
            · exact absurd z (c j d hj q)
            · exact Rp.mono xF r
          | raw u => cases es; exact ok
          | ino o =>
            cases es
            obtain ⟨p, e1, e2, t⟩ := ok
            refine ⟨p, e1, e2, fun os eo hf => ?_⟩
            subst eo
            obtain ⟨us, eu, ru⟩ := t
            exact ⟨us, eu, flt_all hf ru⟩
          | own _ _ => cases es
          | scr _ => cases es
    sep := fun a b s t p e1 e2 o1 o2 p1 p2 => by
      have key : ∀ {j : Nat} {s : Sl}, gt (st (mpS spS Γ) i (some (.dat told true))) j = some s → isIno s = true → ∃ t, gt Γ j = some t ∧ owny t = true := fun {j s} es o => by
        by_cases hj : j = i
        · subst hj
          have hl := gt_lt es
          rw [st_length] at hl
          rw [gt_st_same hl] at es
          cases es
          cases o
        · rw [gt_st_ne hj, gt_sp] at es
          cases q : gt Γ j with
          | none => rw [q] at es; cases es
          | some t =>
            rw [q] at es
            cases t with
            | ino o => exact ⟨_, rfl, rfl⟩
            | dat d fr => cases fr <;> cases es <;> cases o
            | old d => cases es; cases o
            | raw u => cases es; cases o
            | own _ _ => cases es
            | scr _ => cases es
      obtain ⟨t1, a1, b1⟩ := key e1 o1
      obtain ⟨t2, a2, b2⟩ := key e2 o2
      exact h'.sep a b t1 t2 p a1 a2 b1 b2 p1 p2
    new := fun q o e => by
      have e' : nw H0 F1 q = some o := e
      unfold nw at e'
      cases z : H0 q with
      | some u => rw [z] at e'; cases e'
      | none =>
        rw [z] at e'
        refine hbO z ?_
        cases y : nw H1 F' q with
        | none => rfl
        | some u => exact absurd (nwE y).1 (h1.sub q o e').there
    grow := fun q es r p => by
      cases r with
      | lst z ra =>
        have z1 := nw_ex _ _ z
        have hq : H1 q = some (.lst _) := RdD.lst (h1.sub _ _ z1)
        have nio : R.io ≠ some q := fun y => by rw [(h1.iof q y).1] at z1; cases z1
        exact ⟨_, [], z, ra, by rw [List.append_nil]; exact h'.base q _ hq nio, Nat.le_refl _, fun _ => rfl⟩ }
  have sb : Sim R Fb P T := s.mono xF
  exact kt R Fb Hb σ0 Γ0 (nw H0 F1) H σ _ 0 [] P T g hb js sb w
end
end Y

/-! Y: part 21: x[k], x[j] = e; x[k] op= e; a, b, c = .. . -/
namespace Y
open PySem PySem.Spec PyProof.Rows L2
section
variable {X : Cx} {E : XK} {e a b c : Expr} {es : List Expr} {pos p q : Pos} {x : Str} {wa wb wc : WE} {va vb : WV}
/-- x[k], x[j] = e -/
@[reducible] def wPut2 (i : Nat) (wk wj we : WE) : WS := fun P Γ => we P.xe Γ fun d fr Γ1 => match d with
  | .tup [d1, d2] => (∃ o, ownAt Γ1 i = some o) ∧ wk P.xe Γ1 fun y1 _ Γ2 => match ownAt Γ2 i with
    | some (o, f) => kPut o y1 d1 fun o' => wj P.xe (ownTo Γ2 i o' (f && fr)) fun y2 _ Γ4 => match ownAt Γ4 i with
      | some (o2, f2) => kPut o2 y2 d2 fun o3 => P.nx (ownTo Γ4 i o3 (f2 && fr))
      | _ => False
    | _ => False
  | _ => False
theorem own_same {R : Rl} {F H F' H' : Hp} {σ : L2.St} {Γ Γ' : En} {i : Nat} {o o' : D} {f f' : Bool} {p p' : Addr} (s : OwnSt R F H σ Γ i o f p) (s' : OwnSt R F' H' σ Γ' i o' f' p') : p' = p := by
  have z := s.at_
  rw [s'.at_] at z
  cases z
  rfl
theorem pws_put2 (i : Nat) {py pz pt : Pos} {kt : Nat} (hc : X.calm = true) (hu : X.A.units + 1 < cLine) (he : PWE X E e wa) (hk : PWE X E b wb) (hj : PWE X E c wc) (hN : X.N[i]? = some x := by rfl) (hv : Vis X.env.scope x := by first | exact Or.inl rfl | exact Or.inr (Or.inl rfl) | exact Or.inr (Or.inr rfl)) (hd : (x == ("__debug__" : Str)) = false := by decide) (hcd : (x == ("__classdict__" : Str)) = false := by decide)
    (ha : ∀ v, assign (.Subscript (.Name x p) b py) X.env v = (do
      let ov ← holding [v] (eval (.Name x p) X.env)
      let iv ← holding [v, ov] (eval b X.env)
      standAt py
      holding [v, ov, iv] (setItem ov iv v)
      release [v, ov, iv] []) := by intro _; rfl)
    (ha2 : ∀ v, assign (.Subscript (.Name x q) c pz) X.env v = (do
      let ov ← holding [v] (eval (.Name x q) X.env)
      let iv ← holding [v, ov] (eval c X.env)
      standAt pz
      holding [v, ov, iv] (setItem ov iv v)
      release [v, ov, iv] []) := by intro _; rfl)
    (hg1 : (assignEach [.Subscript (.Name x p) b py, .Subscript (.Name x q) c pz] X.env).map (·.2) = assign (.Subscript (.Name x p) b py) X.env :: (assignEach [.Subscript (.Name x q) c pz] X.env).map (·.2) := by rfl)
    (hg2 : (assignEach [.Subscript (.Name x q) c pz] X.env).map (·.2) = assign (.Subscript (.Name x q) c pz) X.env :: (assignEach [] X.env).map (·.2) := by rfl)
    (hn : (assignEach [.Subscript (.Name x p) b py, .Subscript (.Name x q) c pz] X.env).length = 2 := by rfl) (hst : (assignEach [.Subscript (.Name x p) b py, .Subscript (.Name x q) c pz] X.env).findIdx? (·.1) = none := by rfl)
    (hs : swapsWithSole [.Tuple [.Subscript (.Name x p) b py, .Subscript (.Name x q) c pz] kt pt] e pos.line X.env = pure false := by rfl) (hw : swappedStores [.Tuple [.Subscript (.Name x p) b py, .Subscript (.Name x q) c pz] kt pt] e X.env = pure none := by rfl)
    (h1 : (assignEach [.Tuple [.Subscript (.Name x p) b py, .Subscript (.Name x q) c pz] kt pt] X.env).map (·.2) = [assign (.Tuple [.Subscript (.Name x p) b py, .Subscript (.Name x q) c pz] kt pt) X.env] := by rfl) :
    PWS X E (.Assign [.Tuple [.Subscript (.Name x p) b py, .Subscript (.Name x q) c pz] kt pt] e pos) (wPut2 i wb wc wa) := by
  obtain ⟨t, pt', kt'⟩ := he
  obtain ⟨u, pu, ku⟩ := hk
  obtain ⟨u2, pu2, ku2⟩ := hj
  refine ⟨_, ps_asg pt' (pg_tup hc (pgs_cons (pg_sub (pe_var hN hv hd hcd) pu (set_all hu) ha) (pgs_cons (pg_sub (pe_var hN hv hd hcd) pu2 (set_all hu) ha2) pgs_nil hg2) hg1) hn hst) hs hw h1, fun R F H σ Γ P T g h s w => ?_⟩
  refine kt' R F H σ Γ P.xe _ _ g h (fun v F1 H1 Γ1 d fr h1 x1 r1 w1 => ?_) w
  cases d with
  | tup ds => match ds, w1, r1 with
    | [d1, d2], w1, r1 =>
      obtain ⟨pp, vs, e1, e2, ra⟩ : Sees R F1 H1 v (.tup [d1, d2]) fr := Sees.of h1.sub r1
      subst e1
      obtain ⟨⟨o, q0⟩, w1⟩ := w1
      cases ra with
      | cons rv1 ra => cases ra with
        | cons rv2 ra => cases ra with
          | nil =>
            refine ⟨pp, _, rfl, .inl (.inl e2), rfl, _, _, rfl, ?_⟩
            obtain ⟨p1, s1⟩ := own_st (o := o.1) (fr := o.2) h1 q0
            refine ⟨.ref p1, s1.at_, ?_⟩
            refine ku R F1 H1 σ Γ1 P.xe _ _ g h1 (fun y F2 H2 Γ2 dy fy h2 x2 r2 w2 => ?_) w1
            cases q2 : ownAt Γ2 i with
            | none => simp only [q2] at w2
            | some z =>
              obtain ⟨o2, f2⟩ := z
              simp only [q2] at w2
              obtain ⟨p2, s2⟩ := own_st h2 q2
              have ep := own_same s1 s2
              subst ep
              obtain ⟨un, o', hr, tt, q3⟩ := put_core h2 s2 (rv1.mono (fF_mono x2.ex)) r2 w2
              refine hr.mono fun H' e => ?_
              subst e
              have h3 := (s2.to_ _ _ _ tt).1
              have x3 := (x1.trans x2).trans (s2.nx tt)
              refine ⟨_, _, rfl, ?_⟩
              refine ⟨.ref p2, s1.at_, ?_⟩
              refine ku2 R F2 _ σ _ P.xe _ _ g h3 (fun y2 F4 H4 Γ4 dy2 fy2 h4 x4 r4 w4 => ?_) q3
              cases q4 : ownAt Γ4 i with
              | none => simp only [q4] at w4
              | some z =>
                obtain ⟨o4, f4⟩ := z
                simp only [q4] at w4
                obtain ⟨p4, s4⟩ := own_st h4 q4
                have ep := own_same s1 s4
                subst ep
                obtain ⟨un2, o5, hr2, tt2, q5⟩ := put_core h4 s4 (rv2.mono (fF_mono (x2.ex.trans x4.ex))) r4 w4
                refine hr2.mono fun H' e => ?_
                subst e
                exact ⟨rfl, s.nx F4 _ _ _ (s4.to_ _ _ _ tt2).1 (x3.trans x4).ex q5⟩
    | [], w1, _ => exact w1.elim
    | [_], w1, _ => exact w1.elim
    | _ :: _ :: _ :: _, w1, _ => exact w1.elim
  | _ => exact w1.elim
def rGetN : V → V → Hp → VK → Prop := fun x y H Q => ∃ (p : Addr) (xs : List V) (k : Int) (z : V), x = .ref p ∧ y = .int k ∧ H p = some (.lst xs) ∧ 0 ≤ k ∧ xs[k.toNat]? = some z ∧ Q z H
theorem get_listN : PGet X rGetN := by
  intro pins s σ H o i ov iv Q I ro ri h
  obtain ⟨p, xs, k, z, rfl, rfl, hp, h0, hz, q⟩ := h
  cases ro
  obtain ⟨t, rfl⟩ := ri
  obtain ⟨its, r, pl, hsz⟩ := I.list (sql_of hp)
  obtain ⟨w, ew, rw'⟩ := r.get hz
  have lk := (List.getElem?_eq_some_iff.mp hz).1
  refine wpAny_getItem_list pl.isList h0 ?_ (by simpa using ew) ⟨z, H, I, rw', q⟩
  have := line63
  omega
/-- x[k] op= e, whole numbers -/
@[reducible] def wAug (i : Nat) (g : Int → Int → Int) (wk we : WE) : WS := fun P Γ => hasL Γ i ∧ wk P.xe Γ fun y _ Γ1 => match ownAt Γ1 i, y with
  | some (.lst ds, _), .int k => 0 ≤ k ∧ (match ds[k.toNat]? with
    | some (.int m) => we P.xe Γ1 fun d _ Γ2 => match ownAt Γ2 i, d with
      | some (.lst es, f), .int n => k < es.length ∧ P.nx (ownTo Γ2 i (.lst (es.set k.toNat (.int (g m n)))) f)
      | _, _ => False
    | _ => False)
  | _, _ => False
theorem pws_aug (i : Nat) {op : Operator} {gi : Int → Int → Int} {py : Pos} (ho : PIp X op (ipI gi)) (hk : PWE X E b wb) (he : PWE X E e wa) (hN : X.N[i]? = some x := by rfl) (hv : Vis X.env.scope x := by first | exact Or.inl rfl | exact Or.inr (Or.inl rfl) | exact Or.inr (Or.inr rfl)) (hd : (x == ("__debug__" : Str)) = false := by decide) (hcd : (x == ("__classdict__" : Str)) = false := by decide)
    (ha : ∀ ov iv new, augStore b ov iv new = (do holding [new, ov, iv] (setItem ov iv new); release [new, ov, iv] []; pure Flow.next) := by intros; rfl) :
    PWS X E (.AugAssign (.Subscript (.Name x p) b py) op e pos) (wAug i gi wb wa) := by
  obtain ⟨t, pt, kt⟩ := he
  obtain ⟨u, pu, ku⟩ := hk
  refine ⟨_, ps_augS (pe_var hN hv hd hcd) pu get_listN pt ho set_list ha, fun R F H σ Γ P T g h s w => ?_⟩
  obtain ⟨hl, w⟩ := w
  obtain ⟨p0, vs0, ds0, f0, _, s0, _, _⟩ := hl.get h
  refine ⟨.ref p0, s0.at_, ?_⟩
  refine ku R F H σ Γ P.xe _ _ g h (fun y F1 H1 Γ1 dy fy h1 x1 r1 w1 => ?_) w
  cases q1 : ownAt Γ1 i with
  | none => simp only [q1] at w1
  | some z =>
    obtain ⟨d1, f1⟩ := z
    cases d1 with
    | lst ds => cases dy with
      | int k =>
        simp only [q1] at w1
        obtain ⟨k0, w1⟩ := w1
        cases q2 : ds[k.toNat]? with
        | none => simp only [q2] at w1
        | some dm => cases dm with
          | int m =>
            simp only [q2] at w1
            obtain ⟨p1, s1⟩ := own_st h1 q1
            obtain ⟨vs, e1, ra⟩ := s1.top
            have ep := own_same s0 s1
            subst ep
            obtain ⟨v, ev, rv⟩ := ra.get q2
            have evm : v = .int m := rp_int rv
            subst evm
            have ey : y = .int k := rp_int r1
            subst ey
            refine ⟨p1, vs, k, .int m, rfl, rfl, e1, k0, ev, ?_⟩
            refine kt R F1 H1 σ Γ1 P.xe _ _ g h1 (fun n F2 H2 Γ2 dn fn h2 x2 r2 w2 => ?_) w1
            cases q3 : ownAt Γ2 i with
            | none => simp only [q3] at w2
            | some z =>
              obtain ⟨d2, f2⟩ := z
              cases d2 with
              | lst es => cases dn with
                | int n' =>
                  simp only [q3] at w2
                  obtain ⟨kl, w2⟩ := w2
                  have en : n = .int n' := rp_int r2
                  subst en
                  obtain ⟨p2, s2⟩ := own_st h2 q3
                  have ep := own_same s1 s2
                  subst ep
                  obtain ⟨ws, e2, rb⟩ := s2.top
                  refine ⟨m, n', rfl, rfl, p2, ws, k, k.toNat, rfl, rfl, e2, ?_, ?_⟩
                  · rw [rb.length]
                    unfold ixN
                    rw [if_pos k0, if_pos kl]
                  · have tt : TopH (fF R F2 f2) (upd H2 p2 (.lst (ws.set k.toNat (.int (gi m n'))))) p2 (.lst (es.set k.toNat (.int (gi m n')))) := ⟨_, upd_same, rb.set (.int (gi m n')) k.toNat⟩
                    exact s.nx F2 _ _ _ (s2.to_ _ _ _ tt).1 ((x1.trans x2).trans (s2.nx tt)).ex w2
                | _ => simp only [q3] at w2
              | _ => simp only [q3] at w2
          | _ => simp only [q2] at w1
      | _ => simp only [q1] at w1
    | _ => simp only [q1] at w1
end
end Y

/-! Y: part 22: a, b, c = .. . -/
namespace Y
open PySem PySem.Spec PyProof.Rows L2
section
variable {X : Cx} {E : XK} {a b c : Expr} {pos : Pos} {x y z : Str} {ma mb mc : WM}
@[reducible] def wPar3 (i j l : Nat) (ma mb mc : WM) : WS := fun P Γ => ma P.xe Γ fun s Γ1 => mb P.xe Γ1 fun t Γ2 => mc P.xe Γ2 fun u Γ3 => P.nx (st (st (st Γ3 i (some s)) j (some t)) l (some u))
/-- a put leaves another's address alone -/
theorem ow_next {R : Rl} {F H : Hp} {σ : L2.St} {Γ : En} (h : Hd R F H σ Γ) {i : Nat} {v : V} {s : Sl} (hs : (∃ d fr, s = .dat d fr) ∨ ∃ o fr, s = .own o fr) {p : Addr} (hp : ¬ Ow σ Γ p) (hv : owny s = true → v ≠ .ref p) : ¬ Ow (σ.set i (some v)) (st Γ i (some s)) p := fun o => by
  rcases hs with ⟨d, fr, e⟩ | ⟨o', fr, e⟩
  · subst e
    exact hp (ow_put rfl h.len o)
  · subst e
    exact hp (ow_putA (hv rfl) o)
theorem pws_par3 {px py pz pt : Pos} {kt k2 pt2} (i j l : Nat) (ha : PWM X E a ma) (hb : PWM X E b mb) (hcc : PWM X E c mc) (hij : i ≠ j) (hil : i ≠ l) (hjl : j ≠ l) (hc : X.calm = true) (hN : X.N.Nodup)
    (hw : swappedStores [.Tuple [.Name x px, .Name y py, .Name z pz] kt pt] (.Tuple [a, b, c] k2 pt2) X.env = pure (some [x, y, z])) (hi : X.N[i]? = some x := by rfl) (hj : X.N[j]? = some y := by rfl) (hl : X.N[l]? = some z := by rfl)
    (hx : X.env.scope.names.lookup x = some .local := by rfl) (hy : X.env.scope.names.lookup y = some .local := by rfl) (hz : X.env.scope.names.lookup z = some .local := by rfl)
    (hs : swapsWithSole [.Tuple [.Name x px, .Name y py, .Name z pz] kt pt] (.Tuple [a, b, c] k2 pt2) pos.line X.env = pure false := by rfl)
    (he : starEach (a :: [b, c]) X.env = (false, eval a X.env) :: starEach [b, c] X.env := by rfl) (he2 : starEach (b :: [c]) X.env = (false, eval b X.env) :: starEach [c] X.env := by rfl) (he3 : starEach (c :: []) X.env = (false, eval c X.env) :: starEach [] X.env := by rfl) :
    PWS X E (.Assign [.Tuple [.Name x px, .Name y py, .Name z pz] kt pt] (.Tuple [a, b, c] k2 pt2) pos) (wPar3 i j l ma mb mc) := by
  obtain ⟨ta, pa, ka⟩ := ha
  obtain ⟨tb, pb, kb⟩ := hb
  obtain ⟨tc, pc, kc⟩ := hcc
  refine ⟨_, ps_par3 hc hN hi hj hl hij hil hjl hx hy hz (pa_cons pa (pa_cons pb (pa_cons pc pa_nil he3) he2) he) hw hs, fun R F H σ Γ P T g h s w => ?_⟩
  refine ka R F H σ Γ P.xe _ _ g h (fun v F1 H1 Γ1 s1 h1 x1 ok1 o1 c1 w1 => kb R F1 H1 σ Γ1 P.xe _ _ g h1 (fun u F2 H2 Γ2 s2 h2 x2 ok2 o2 c2 w2 => kc R F2 H2 σ Γ2 P.xe _ _ g h2 (fun t F3 H3 Γ3 s3 h3 x3 ok3 o3 c3 w3 => ?_) w2) w1) w
  have n1 := ow_dat (R := R) (F := F) (F' := F1) (H' := H1) o1
  have n2 := ow_dat (R := R) (F := F1) (F' := F2) (H' := H2) o2
  have n3 := ow_dat (R := R) (F := F2) (F' := F3) (H' := H3) o3
  have ok1a := sl_stay ok1 c1 n1 x2
  have n1a : ∀ p, v = .ref p → owny s1 = true → ¬ Ow σ Γ2 p := fun p e o z => n1 p e o (x2.ow p z)
  have ok1b := sl_stay ok1a c1 n1a x3
  have n1b : ∀ p, v = .ref p → owny s1 = true → ¬ Ow σ Γ3 p := fun p e o z => n1a p e o (x3.ow p z)
  have ok2a := sl_stay ok2 c2 n2 x3
  have n2a : ∀ p, u = .ref p → owny s2 = true → ¬ Ow σ Γ3 p := fun p e o z => n2 p e o (x3.ow p z)
  -- the later ones stand elsewhere
  have top : ∀ {F' H' : Hp} {w' : V} {s' : Sl}, SlOk R F' H' w' s' → ((∃ d fr, s' = .dat d fr) ∨ ∃ o fr, s' = .own o fr) → owny s' = true → ∀ p, w' = .ref p → H' p ≠ none := fun {F' H' w' s'} ok cc oo p e => by
    rcases cc with ⟨d, fr, es⟩ | ⟨o, fr, es⟩
    · subst es; cases oo
    · subst es
      obtain ⟨q, e1, _, _, t⟩ := ok
      rw [e] at e1
      cases e1
      obtain ⟨u, hu⟩ := t.there
      rw [hu]
      simp
  have d12 : ∀ p, u = .ref p → owny s2 = true → owny s1 = true → v ≠ .ref p := fun p e o oo ev => by
    obtain ⟨q, _, _, e2, _, hq, _⟩ := o2 o
    rw [e] at e2
    cases e2
    exact top ok1 c1 oo p ev hq
  have d13 : ∀ p, t = .ref p → owny s3 = true → owny s1 = true → v ≠ .ref p := fun p e o oo ev => by
    obtain ⟨q, _, _, e2, _, hq, _⟩ := o3 o
    rw [e] at e2
    cases e2
    exact top ok1a c1 oo p ev hq
  have d23 : ∀ p, t = .ref p → owny s3 = true → owny s2 = true → u ≠ .ref p := fun p e o oo ev => by
    obtain ⟨q, _, _, e2, _, hq, _⟩ := o3 o
    rw [e] at e2
    cases e2
    exact top ok2 c2 oo p ev hq
  have p1 := put_any (i := i) h3 ok1b c1 n1b
  have p2 := put_any (i := j) p1 ok2a c2 fun p e o => ow_next h3 c1 (n2a p e o) (d12 p e o)
  have p3 := put_any (i := l) p2 ok3 c3 fun p e o => ow_next p1 c2 (ow_next h3 c1 (n3 p e o) (d13 p e o)) (d23 p e o)
  exact ⟨v, u, t, rfl, s.nx F3 H3 _ _ p3 ((x1.trans x2).trans x3).ex w3⟩
theorem pws_asg3 {px py pz pt : Pos} {kt k2 pt2} (i j l : Nat) (ha : PWM X E a ma) (hb : PWM X E b mb) (hcc : PWM X E c mc) (hc : X.calm = true) (hN : X.N.Nodup)
    (hi : X.N[i]? = some x := by rfl) (hj : X.N[j]? = some y := by rfl) (hl : X.N[l]? = some z := by rfl)
    (hx : Loc X.env.scope x := by first | exact Or.inl rfl | exact Or.inr rfl) (hy : Loc X.env.scope y := by first | exact Or.inl rfl | exact Or.inr rfl) (hz : Loc X.env.scope z := by first | exact Or.inl rfl | exact Or.inr rfl)
    (fx : X.fn x = true ∨ X.env.scope.names.lookup x = some .local := by first | exact .inl rfl | exact .inr rfl | assumption) (fy : X.fn y = true ∨ X.env.scope.names.lookup y = some .local := by first | exact .inl rfl | exact .inr rfl | assumption) (fz : X.fn z = true ∨ X.env.scope.names.lookup z = some .local := by first | exact .inl rfl | exact .inr rfl | assumption)
    (hs : swapsWithSole [.Tuple [.Name x px, .Name y py, .Name z pz] kt pt] (.Tuple [a, b, c] k2 pt2) pos.line X.env = pure false := by rfl) (hw : swappedStores [.Tuple [.Name x px, .Name y py, .Name z pz] kt pt] (.Tuple [a, b, c] k2 pt2) X.env = pure none := by rfl)
    (h1 : (assignEach [.Tuple [.Name x px, .Name y py, .Name z pz] kt pt] X.env).map (·.2) = [assign (.Tuple [.Name x px, .Name y py, .Name z pz] kt pt) X.env] := by rfl)
    (g1 : (assignEach [.Name x px, .Name y py, .Name z pz] X.env).map (·.2) = assign (.Name x px) X.env :: (assignEach [.Name y py, .Name z pz] X.env).map (·.2) := by rfl) (g2 : (assignEach [.Name y py, .Name z pz] X.env).map (·.2) = assign (.Name y py) X.env :: (assignEach [.Name z pz] X.env).map (·.2) := by rfl) (g3 : (assignEach [.Name z pz] X.env).map (·.2) = assign (.Name z pz) X.env :: (assignEach [] X.env).map (·.2) := by rfl)
    (hn : (assignEach [.Name x px, .Name y py, .Name z pz] X.env).length = 3 := by rfl) (hst : (assignEach [.Name x px, .Name y py, .Name z pz] X.env).findIdx? (·.1) = none := by rfl)
    (he : starEach (a :: [b, c]) X.env = (false, eval a X.env) :: starEach [b, c] X.env := by rfl) (he2 : starEach (b :: [c]) X.env = (false, eval b X.env) :: starEach [c] X.env := by rfl) (he3 : starEach (c :: []) X.env = (false, eval c X.env) :: starEach [] X.env := by rfl) :
    PWS X E (.Assign [.Tuple [.Name x px, .Name y py, .Name z pz] kt pt] (.Tuple [a, b, c] k2 pt2) pos) (wPar3 i j l ma mb mc) := by
  obtain ⟨ta, pa, ka⟩ := ha
  obtain ⟨tb, pb, kb⟩ := hb
  obtain ⟨tc, pc, kc⟩ := hcc
  refine ⟨_, ps_asg (pe_tup (pa_cons pa (pa_cons pb (pa_cons pc pa_nil he3) he2) he)) (pg_tup hc (pgs_cons (pg_name hN hi hx fx) (pgs_cons (pg_name hN hj hy fy) (pgs_cons (pg_name hN hl hz fz) pgs_nil g3) g2) g1) hn hst) hs hw h1, fun R F H σ Γ P T g h s w => ?_⟩
  refine ka R F H σ Γ P.xe _ _ g h (fun v F1 H1 Γ1 s1 h1 x1 ok1 o1 c1 w1 => kb R F1 H1 σ Γ1 P.xe _ _ g h1 (fun u F2 H2 Γ2 s2 h2 x2 ok2 o2 c2 w2 => kc R F2 H2 σ Γ2 P.xe _ _ g h2 (fun t F3 H3 Γ3 s3 h3 x3 ok3 o3 c3 w3 => ?_) w2) w1) w
  have n1 := ow_dat (R := R) (F := F) (F' := F1) (H' := H1) o1
  have n2 := ow_dat (R := R) (F := F1) (F' := F2) (H' := H2) o2
  have n3 := ow_dat (R := R) (F := F2) (F' := F3) (H' := H3) o3
  have ok1a := sl_stay ok1 c1 n1 x2
  have n1a : ∀ p, v = .ref p → owny s1 = true → ¬ Ow σ Γ2 p := fun p e o z => n1 p e o (x2.ow p z)
  have ok1b := sl_stay ok1a c1 n1a x3
  have n1b : ∀ p, v = .ref p → owny s1 = true → ¬ Ow σ Γ3 p := fun p e o z => n1a p e o (x3.ow p z)
  have ok2a := sl_stay ok2 c2 n2 x3
  have n2a : ∀ p, u = .ref p → owny s2 = true → ¬ Ow σ Γ3 p := fun p e o z => n2 p e o (x3.ow p z)
  -- the later ones stand elsewhere
  have top : ∀ {F' H' : Hp} {w' : V} {s' : Sl}, SlOk R F' H' w' s' → ((∃ d fr, s' = .dat d fr) ∨ ∃ o fr, s' = .own o fr) → owny s' = true → ∀ p, w' = .ref p → H' p ≠ none := fun {F' H' w' s'} ok cc oo p e => by
    rcases cc with ⟨d, fr, es⟩ | ⟨o, fr, es⟩
    · subst es; cases oo
    · subst es
      obtain ⟨q, e1, _, _, t⟩ := ok
      rw [e] at e1
      cases e1
      obtain ⟨u, hu⟩ := t.there
      rw [hu]
      simp
  have d12 : ∀ p, u = .ref p → owny s2 = true → owny s1 = true → v ≠ .ref p := fun p e o oo ev => by
    obtain ⟨q, _, _, e2, _, hq, _⟩ := o2 o
    rw [e] at e2
    cases e2
    exact top ok1 c1 oo p ev hq
  have d13 : ∀ p, t = .ref p → owny s3 = true → owny s1 = true → v ≠ .ref p := fun p e o oo ev => by
    obtain ⟨q, _, _, e2, _, hq, _⟩ := o3 o
    rw [e] at e2
    cases e2
    exact top ok1a c1 oo p ev hq
  have d23 : ∀ p, t = .ref p → owny s3 = true → owny s2 = true → u ≠ .ref p := fun p e o oo ev => by
    obtain ⟨q, _, _, e2, _, hq, _⟩ := o3 o
    rw [e] at e2
    cases e2
    exact top ok2 c2 oo p ev hq
  refine ⟨by show 3 ≤ sizeLine; decide, fun T0 hT => ?_⟩
  have h4 := (h3.newO (o := .tup [v, u, t]) hT).1
  have x4 : Nx σ F3 H3 Γ3 F3 (upd H3 T0 (.tup [v, u, t])) Γ3 := Nx.refl.newO hT
  have ok1c := sl_stay ok1b c1 n1b x4
  have ok2b := sl_stay ok2a c2 n2a x4
  have ok3a := sl_stay ok3 c3 n3 x4
  have p1 := put_any (i := i) h4 ok1c c1 n1b
  have p2 := put_any (i := j) p1 ok2b c2 fun p e o => ow_next h4 c1 (n2a p e o) (d12 p e o)
  have p3 := put_any (i := l) p2 ok3a c3 fun p e o => ow_next p1 c2 (ow_next h4 c1 (n3 p e o) (d13 p e o)) (d23 p e o)
  exact ⟨T0, [v, u, t], rfl, .inl (.inl upd_same), rfl, v, _, rfl, u, _, rfl, t, _, rfl, rfl, s.nx F3 _ _ _ p3 (((x1.trans x2).trans x3).trans x4).ex w3⟩
end
end Y

/-! Y: part 23: walks over a dict with tuple keys: the dict is locked from there on. -/
namespace Y
open PySem PySem.Spec PyProof.Rows L2
/-- the frame in which the dict at d stands locked -/
def rL (R : Rl) (F : Hp) (d : Addr) (od : Obj) (vs : List (List Key × V)) (kvs : List (List Key × D)) : Rl := ⟨R.K, upd R.H0 d (.frz od (.dT vs)), F, R.io, fun v d' => d' = .dt kvs ∧ v = .ref d⟩
@[reducible] def lkS : Option Sl → Option Sl
  | some (.dat d _) => some (.dat d false)
  | some (.own o _) => some (.own o false)
  | some (.old d) => some (.dat d false)
  | some (.ino o) => some (.ino o)
  | some (.raw v) => some (.raw v)
  | _ => none
/-- into that frame: the dict's own slot apart -/
@[reducible] def lkIn (i : Nat) (kvs : List (List Key × D)) (Γ : En) : En := st (mpS lkS Γ) i (some (.old (.dt kvs)))
/-- back -/
@[reducible] def lbS : Option Sl → Option Sl
  | some (.old d) => some (.dat d true)
  | some (.dat d f) => some (.dat d f)
  | some (.own o f) => some (.own o f)
  | some (.ino o) => some (.ino o)
  | some (.raw v) => some (.raw v)
  | _ => none
@[reducible] def lkOut (Γ : En) : En := mpS lbS Γ
section
variable {R : Rl} {F H F' H' : Hp} {σ : L2.St} {Γ : En} {d : Addr} {od : Obj} {vs : List (List Key × V)} {kvs : List (List Key × D)} {i : Nat}
theorem gt_lk {Γ : En} {j : Nat} : gt (mpS lkS Γ) j = lkS (gt Γ j) := gt_map rfl
theorem gt_lb {Γ : En} {j : Nat} : gt (lkOut Γ) j = lbS (gt Γ j) := gt_map rfl
theorem upd_at {H : Hp} {a : Addr} {u : HO} {b : Addr} {w : HO} (h : upd H a u b = some w) : (b = a ∧ u = w) ∨ (b ≠ a ∧ H b = some w) := by
  by_cases e : b = a
  · rw [e, upd_same] at h
    exact .inl ⟨e, Option.some.inj h⟩
  · rw [upd_ne e] at h
    exact .inr ⟨e, h⟩
theorem Hd.toL (h : Hd R F H σ Γ) (hF : F d = some (.dT vs)) (h0 : R.H0 d = none) (hi : σ[i]? = some (some (.ref d))) (hr : RpT F vs kvs) (hH : Rd H d (.dT vs)) (hL : H' = upd H d (.frz od (.dT vs))) (il : i < Γ.length) : Hd (rL R F d od vs kvs) F H' σ (lkIn i kvs Γ) where
  sub := fun a u e => by
    subst hL
    by_cases ha : a = d
    · subst ha
      rw [hF] at e
      cases e
      exact .inr ⟨.inr ⟨vs, rfl⟩, od, upd_same⟩
    · rcases h.sub a u e with q | ⟨q, o, q2⟩
      · exact .inl (by rw [upd_ne ha]; exact q)
      · exact .inr ⟨q, o, by rw [upd_ne ha]; exact q2⟩
  base := fun a o e n => by
    subst hL
    rcases upd_at e with ⟨e1, e2⟩ | ⟨e1, e2⟩
    · rw [e1, upd_same, e2]
    · rw [upd_ne e1]
      exact h.base a o e2 n
  f0 := fun a u e => e
  new := fun a u e => .inl e
  iof := fun a e => by
    subst hL
    obtain ⟨z1, z2, z3⟩ := h.iof a e
    have ne : a ≠ d := fun z => by rw [z, hF] at z1; cases z1
    exact ⟨z1, by show upd R.H0 d _ a ≠ none; rw [upd_ne ne]; exact z2, by rw [upd_ne ne]; exact z3⟩
  len := by rw [st_length, mpS_length]; exact h.len
  sl := fun j s e => by
    subst hL
    by_cases hj : j = i
    · subst hj
      have hl := gt_lt e
      rw [st_length] at hl
      rw [gt_st_same hl] at e
      cases e
      exact ⟨_, hi, .dt hF hr, rfl, rfl⟩
    · rw [gt_st_ne hj, gt_lk] at e
      cases q : gt Γ j with
      | none => rw [q] at e; cases e
      | some t =>
        rw [q] at e
        obtain ⟨v, e1, ok⟩ := h.sl j t q
        refine ⟨v, e1, ?_⟩
        cases t with
        | dat x fr => cases e; exact Rp.mono fF_ex ok
        | own o fr =>
          cases e
          obtain ⟨p, e2, e3, e4, t⟩ := ok
          have ne : p ≠ d := fun z => by rw [z, hF] at e3; cases e3
          exact ⟨p, e2, e3, by show upd R.H0 d _ p = none; rw [upd_ne ne]; exact e4, t.mono fF_ex fun u k => by rw [upd_ne ne]; exact k⟩
        | old x => cases e; exact Rp.mono h.f0 ok.1
        | ino o =>
          cases e
          obtain ⟨p, e2, e3, t⟩ := ok
          have ne : p ≠ d := fun z => by
            have := (h.iof p e3).1
            rw [z, hF] at this
            cases this
          exact ⟨p, e2, e3, t.mono (Ex.refl F) fun u k => by rw [upd_ne ne]; exact k⟩
        | raw u => cases e; exact ok
        | scr _ => cases e
  sep := fun a b s t p e1 e2 o1 o2 p1 p2 => by
    have key : ∀ {j : Nat} {s : Sl}, gt (lkIn i kvs Γ) j = some s → owny s = true → ∃ t, gt Γ j = some t ∧ owny t = true := fun {j s} e o => by
      by_cases hj : j = i
      · subst hj
        have hl := gt_lt e
        unfold lkIn at e hl
        rw [st_length] at hl
        rw [gt_st_same hl] at e
        cases e
        cases o
      · unfold lkIn at e
        rw [gt_st_ne hj, gt_lk] at e
        cases q : gt Γ j with
        | none => rw [q] at e; cases e
        | some t =>
          rw [q] at e
          cases t with
          | own o2 fr => exact ⟨_, rfl, rfl⟩
          | ino o2 => exact ⟨_, rfl, rfl⟩
          | dat x fr => cases e; cases o
          | old x => cases e; cases o
          | raw u => cases e; cases o
          | scr _ => cases e
    obtain ⟨t1, a1, b1⟩ := key e1 o1
    obtain ⟨t2, a2, b2⟩ := key e2 o2
    exact h.sep a b t1 t2 p a1 a2 b1 b2 p1 p2
theorem Hd.ofL {σ0 : L2.St} {Γ0 : En} (h : Hd R F H σ0 Γ0) (h' : Hd (rL R F d od vs kvs) F' H' σ Γ) (hF : F d = some (.dT vs)) (h0 : R.H0 d = none) (hr : RpT (nw R.H0 F) vs kvs) : Hd R F' H' σ (lkOut Γ) where
  sub := h'.sub
  base := fun a o e n => by
    refine h'.base a o ?_ n
    show upd R.H0 d _ a = some o
    rw [upd_ne (fun z => by rw [z, h0] at e; cases e)]
    exact e
  f0 := fun a u e => h'.f0 a u (h.f0 a u e)
  new := fun a u e => by
    rcases h'.new a u e with q | q
    · exact h.new a u q
    · right
      have q' : upd R.H0 d (.frz od (.dT vs)) a = none := q
      by_cases ha : a = d
      · rw [ha]; exact h0
      · rw [upd_ne ha] at q'
        exact q'
  iof := fun a e => by
    obtain ⟨z1, z2, z3⟩ := h'.iof a e
    exact ⟨z1, (h.iof a e).2.1, z3⟩
  len := by unfold lkOut; rw [mpS_length]; exact h'.len
  sl := fun j s e => by
    have xn : Ex (nw (upd R.H0 d (.frz od (.dT vs))) F') (nw R.H0 F') := fun a u e => by
      unfold nw at e
      by_cases ha : a = d
      · rw [ha, upd_same] at e
        cases e
      · rw [upd_ne ha] at e
        exact e
    have xf : ∀ {fr : Bool}, Ex (fF (rL R F d od vs kvs) F' fr) (fF R F' fr) := fun {fr} => by
      cases fr with
      | true => exact xn
      | false => exact Ex.refl _
    rw [gt_lb] at e
    cases q : gt Γ j with
    | none => rw [q] at e; cases e
    | some t =>
      rw [q] at e
      obtain ⟨v, e1, ok⟩ := h'.sl j t q
      refine ⟨v, e1, ?_⟩
      cases t with
      | dat x fr => cases e; exact Rp.mono xf ok
      | own o fr =>
        cases e
        obtain ⟨p, e2, e3, e4, t⟩ := ok
        have e4' : upd R.H0 d (.frz od (.dT vs)) p = none := e4
        have ne : p ≠ d := fun z => by rw [z, upd_same] at e4'; cases e4'
        rw [upd_ne ne] at e4'
        exact ⟨p, e2, e3, e4', t.mono xf fun u k => k⟩
      | old x =>
        cases e
        obtain ⟨_, e3, e4⟩ := ok
        subst e3
        subst e4
        have xF : Ex F F' := fun a u e => h'.f0 a u e
        exact .dt (by show nw R.H0 F' d = _; rw [nw_at h0]; exact xF _ _ hF) (hr.mono (nw_mono xF))
      | ino o =>
        cases e
        obtain ⟨p, e2, e3, t⟩ := ok
        exact ⟨p, e2, e3, t⟩
      | raw u => cases e; exact ok
      | scr _ => cases e
  sep := fun a b s t p e1 e2 o1 o2 p1 p2 => by
    have key : ∀ {j : Nat} {s : Sl}, gt (lkOut Γ) j = some s → owny s = true → ∃ t, gt Γ j = some t ∧ owny t = true := fun {j s} e o => by
      rw [gt_lb] at e
      cases q : gt Γ j with
      | none => rw [q] at e; cases e
      | some t =>
        rw [q] at e
        cases t with
        | own o2 fr => exact ⟨_, rfl, rfl⟩
        | ino o2 => exact ⟨_, rfl, rfl⟩
        | dat x fr => cases e; cases o
        | old x => cases e; cases o
        | raw u => cases e; cases o
        | scr _ => cases e
    obtain ⟨t1, a1, b1⟩ := key e1 o1
    obtain ⟨t2, a2, b2⟩ := key e2 o2
    exact h'.sep a b t1 t2 p a1 a2 b1 b2 p1 p2
end
end Y

/-! Y: part 24: for a, b in a dict with tuple keys. -/
namespace Y
open PySem PySem.Spec PyProof.Rows L2
/-- over the keys, the dict locked for good -/
def iKeysF (td : TE) : TI := fun σ H R => td σ H fun x H1 => ∃ (d : Addr) (vs : List (List Key × V)), x = .ref d ∧ Rd H1 d (.dT vs) ∧ ∀ od, R (Itkt d od vs) (upd H1 d (.frz od (.dT vs)))
section
variable {X : Cx} {E : XK} {tg e : Expr} {td : TE} {pos p : Pos} {x a b : Str}
theorem pi_keysF (he : PE X e td) : PI X tg e (iKeysF td) := by
  refine ⟨fun pin s0 st0 H0 R0 I0 h0 => ?_⟩
  refine thn (he.run pin s0 st0 H0 _ I0 h0) fun u s1 ⟨x, H1, I1, rx, d, vs, ex, rd, q⟩ => ?_
  subst ex
  obtain rfl : u = Value.ref d := rx
  obtain ⟨od, I2⟩ : ∃ od, Inv X pin st0 (upd H1 d (.frz od (.dT vs))) s1 := by
    rcases rd with hd | ⟨o, hd⟩
    · exact I1.lock hd True.intro
    · exact ⟨o, by rw [upd_self hd]; exact I1⟩
  obtain ⟨z1, z2, z3, es, ep, z4, z5, _⟩ := I2.frzT (d := d) upd_same
  refine iter_keys z1 z2 z3 z4 (pi_one (tk := s1.toks) I2 _ (turn_keysT _ z4) ⟨_, Heap.get?_push_size _ rfl, rfl, ?_⟩ (q od))
  rw [z5] <;> rfl
@[reducible] def lkP (P : DE) : DE := { nx := fun Γ => P.nx (lkOut Γ), rt := fun d fr Γ => P.rt d fr (lkOut Γ), bk := fun Γ => P.bk (lkOut Γ), ct := fun Γ => P.ct (lkOut Γ), xe := P.xe }
/-- for a, b in x -/
@[reducible] def wForT (i j1 j2 : Nat) (wb : WS) : WS := fun P Γ => ∃ (kvs : List (List Key × D)) (ks : List (Int × Int)), gt Γ i = some (.dat (.dt kvs) true) ∧ kvs.map (·.1) = ks.map (fun k => [Sum.inl k.1, Sum.inl k.2]) ∧
  forGo (wTgt (wgCons (wName j1) (wgCons (wName j2) wgNil))) wb (lkP P) (ks.map fun k => (.tup [.int k.1, .int k.2], true)) (lkIn i kvs Γ)
theorem rpT_keys {F : Hp} : ∀ {vs : List (List Key × V)} {ds : List (List Key × D)}, RpT F vs ds → vs.map (·.1) = ds.map (·.1)
  | _, _, .nil => rfl
  | _, _, .cons _ r => congrArg _ (rpT_keys r)
theorem pws_forT {body : List Stmt} {wb : WS} {kk : Nat} {tpos pa pb p3 : Pos} (i j1 j2 : Nat) (hp : PassesOwn (model X.prog X.w) X.A X.env X.xe) (hc : X.calm = true) (hNd : X.N.Nodup) (hb : PWSs X E body wb) (hN : X.N[i]? = some x := by rfl) (hv : Vis X.env.scope x := by first | exact Or.inl rfl | exact Or.inr (Or.inl rfl) | exact Or.inr (Or.inr rfl)) (hd : (x == ("__debug__" : Str)) = false := by decide) (hcd : (x == ("__classdict__" : Str)) = false := by decide)
    (ha : X.N[j1]? = some a := by rfl) (hbn : X.N[j2]? = some b := by rfl) (la : Loc X.env.scope a := by first | exact Or.inl rfl | exact Or.inr rfl) (lb : Loc X.env.scope b := by first | exact Or.inl rfl | exact Or.inr rfl)
    (fa : X.fn a = true ∨ X.env.scope.names.lookup a = some .local := by first | exact .inl rfl | exact .inr rfl | assumption) (fb : X.fn b = true ∨ X.env.scope.names.lookup b = some .local := by first | exact .inl rfl | exact .inr rfl | assumption)
    (g1 : (assignEach [.Name a pa, .Name b pb] X.env).map (·.2) = assign (.Name a pa) X.env :: (assignEach [.Name b pb] X.env).map (·.2) := by rfl) (g2 : (assignEach [.Name b pb] X.env).map (·.2) = assign (.Name b pb) X.env :: (assignEach [] X.env).map (·.2) := by rfl)
    (hn : (assignEach [.Name a pa, .Name b pb] X.env).length = 2 := by rfl) (hst : (assignEach [.Name a pa, .Name b pb] X.env).findIdx? (·.1) = none := by rfl)
    (hs : ∀ z, foldedSetIterable (.Name x p) X.env z = pure z := by intro _; rfl) :
    PWS X E (.For (.Tuple [.Name a pa, .Name b pb] kk tpos) (.Name x p) body [] p3) (wForT i j1 j2 wb) := by
  obtain ⟨tb, pb', kb⟩ := hb
  refine ⟨_, ps_for hp hc (pi_keysF (pe_var hN hv hd hcd)) (pg_tup hc (pgs_cons (pg_name hNd ha la fa) (pgs_cons (pg_name hNd hbn lb fb) pgs_nil g2) g1) hn hst) pb' hs, fun R F H σ Γ P T g h s w => ?_⟩
  obtain ⟨kvs, ks, eg, ek, w⟩ := w
  obtain ⟨v, e1, ok⟩ := h.sl i _ eg
  obtain ⟨d, vs, ev, hnF, hr⟩ : ∃ (d : Addr) (vs : List (List Key × V)), v = .ref d ∧ nw R.H0 F d = some (.dT vs) ∧ RpT (nw R.H0 F) vs kvs := by
    cases ok with
    | dt z r => exact ⟨_, _, rfl, z, r⟩
  subst ev
  have h0 : R.H0 d = none := by
    cases q : R.H0 d with
    | none => rfl
    | some u => unfold nw at hnF; rw [q] at hnF; cases hnF
  have hF : F d = some (.dT vs) := nw_ex _ _ hnF
  have il := gt_lt eg
  refine ⟨_, e1, d, vs, rfl, (h.sub d _ hF).rd, fun od => ?_⟩
  have h1 : Hd (rL R F d od vs kvs) F (upd H d (.frz od (.dT vs))) σ (lkIn i kvs Γ) := h.toL hF h0 e1 (hr.mono nw_ex) (h.sub d _ hF).rd rfl il
  have ekv : vs.map (·.1) = ks.map (fun k => [Sum.inl k.1, Sum.inl k.2]) := (rpT_keys hr).trans ek
  have lvs : vs.length = ks.length := by
    have := congrArg List.length ekv
    rwa [List.length_map, List.length_map] at this
  have gl : Go X (rL R F d od vs kvs) E P.xe := ⟨g.K, fun c C dd v d' F' H' hm hex b0 xF sub rv hdd => g.lk c C dd v d' F' H' hm hex (fun a o e n => b0 a o (by
    show upd R.H0 d _ a = some o
    rw [upd_ne (fun z => by rw [z, h0] at e; cases e)]
    exact e) n) (fun a u e => xF a u (h.f0 a u e)) sub rv hdd⟩
  refine ⟨fun n m σ' H' => m = ks.length - n ∧ n ≤ ks.length ∧ ∃ F' Γ', Ex F F' ∧ Hd (rL R F d od vs kvs) F' H' σ' Γ' ∧ forGo (wTgt (wgCons (wName j1) (wgCons (wName j2) wgNil))) wb (lkP P) ((ks.map fun k => (.tup [.int k.1, .int k.2], true)).drop n) Γ', ⟨ks.length, rfl, Nat.zero_le _, F, _, Ex.refl _, h1, w⟩, ?_⟩
  rintro n m σ2 H2 ⟨em, hn2, F2, Γ2, x2, h2, q2⟩
  have lock : H2 d = some (.frz od (.dT vs)) := h2.base d _ upd_same fun z => by
    have := (h2.iof d z).1
    rw [x2 _ _ hF] at this
    cases this
  have back : ∀ {F' H' σ' Γ'}, Hd (rL R F d od vs kvs) F' H' σ' Γ' → Hd R F' H' σ' (lkOut Γ') := fun h' => h.ofL h' hF h0 hr
  have xr : ∀ {F' : Hp} {fr : Bool}, Ex (fF (rL R F d od vs kvs) F' fr) (fF R F' fr) := fun {F' fr} => by
    cases fr with
    | true =>
      intro a u e
      have e' : nw (upd R.H0 d (.frz od (.dT vs))) F' a = some u := e
      unfold nw at e'
      show nw R.H0 F' a = some u
      unfold nw
      by_cases ha : a = d
      · rw [ha, upd_same] at e'
        cases e'
      · rw [upd_ne ha] at e'
        exact e'
    | false => exact Ex.refl _
  by_cases hlt : n < ks.length
  · refine .inr ⟨⟨lock, by omega⟩, fun σ' H' => ∃ F' Γ', Ex F F' ∧ Hd (rL R F d od vs kvs) F' H' σ' Γ' ∧ forGo (wTgt (wgCons (wName j1) (wgCons (wName j2) wgNil))) wb (lkP P) ((ks.map fun k => (.tup [.int k.1, .int k.2], true)).drop (n + 1)) Γ', fun σ' H' ⟨F', Γ', a1, a2, a3⟩ => ⟨ks.length - (n + 1), by omega, rfl, hlt, F', Γ', a1, a2, a3⟩, fun y H' hy => ?_⟩
    obtain ⟨eH, k, v0, qa, hk, ey, hq⟩ := hy
    subst eH
    subst ey
    have ekn : k = [Sum.inl ks[n].1, Sum.inl ks[n].2] := by
      have z := congrArg (fun l => l[n]?) ekv
      simp only [List.getElem?_map, hk, List.getElem?_eq_getElem hlt] at z
      exact Option.some.inj z
    subst ekn
    rw [drop_cons (by rw [List.length_map]; exact hlt), List.getElem_map] at q2
    refine ⟨qa, _, rfl, .inl (.inl hq), rfl, _, _, rfl, _, _, rfl, rfl, ?_⟩
    have h3 := (h2.put (i := j1) (v := kV (Sum.inl ks[n].1)) (s := .dat (.int ks[n].1) true) (.int _) rfl).put (i := j2) (v := kV (Sum.inl ks[n].2)) (s := .dat (.int ks[n].2) true) (.int _) rfl
    refine kb _ F2 H' _ _ _ _ (by exact gl) h3 ?_ q2
    exact ⟨fun F' H' σ' Γ' hh xx qq => ⟨F', Γ', x2.trans xx, hh, qq⟩, fun v F' H' σ' Γ' d' fr hh xx rv qq => s.rt v F' H' σ' (lkOut Γ') d' fr (back hh) (x2.trans xx) (Rp.mono xr rv) qq, fun F' H' σ' Γ' hh xx qq => s.nx F' H' σ' (lkOut Γ') (back hh) (x2.trans xx) qq, fun F' H' σ' Γ' hh xx qq => ⟨F', Γ', x2.trans xx, hh, qq⟩⟩
  · have e : n = ks.length := by omega
    subst e
    rw [List.drop_of_length_le (by rw [List.length_map]; exact Nat.le_refl _)] at q2
    exact .inl ⟨⟨lock, by omega⟩, s.nx F2 H2 σ2 (lkOut Γ2) (back h2) x2 q2⟩
end
end Y

/-! Y: part 25: the items of a dict with tuple keys. -/
namespace Y
open PySem PySem.Spec PyProof.Rows L2
section
variable {X : Cx} {pins : List (Addr × Obj)} {σ : L2.St} {H : Hp} {s : Shared} {d : Addr} {o : Obj}
/-- what is known of a locked dict with tuple keys -/
theorem locked_raw {kvs : List (List Key × V)} (I : Inv X pins σ H s) (h : H d = some (.frz o (.dT kvs))) :
    (d == sysModules) = false ∧ ∃ (es : Array DictEntry) (ep : Nat), o.data = .dict es ep ∧ es.size = kvs.length ∧ DT.Raw s.heap d es ep ∧
      ∀ (n : Nat) (k : List Key) (v : V), kvs[n]? = some (k, v) → ∃ (en : DictEntry) (q : Addr), es[n]? = some en ∧ en.key = .ref q ∧ H q = some (.tup (k.map kV)) ∧ RelV v en.val := by
  obtain ⟨at_, _, ns, rows, pr, oo, es, ep, at2, exact_, dat, ent, _⟩ := I.hok d _ h
  rw [at_] at at2
  cases at2
  refine ⟨ns, es, ep, dat, ?_, ⟨o, at_, exact_, dat⟩, fun n k v e => ?_⟩
  · have l1 : es.size = rows.length := size_of_entries ent
    have l2 : kvs.length = rows.length := Paired.length pr
    omega
  · obtain ⟨row, er, k1, k2, k3⟩ := L2.paired_get pr e
    have z := entry_at ent n
    rw [er] at z
    exact ⟨_, row.2.1, z, rfl, k2, k3⟩
end
/-- the pairs, each a new tuple of the key's own tuple and the value -/
def Itit (d : Addr) (o : Obj) (kvs : List (List Key × V)) : It :=
  ⟨fun n H => H d = some (.frz o (.dT kvs)) ∧ n < kvs.length, fun n H x H' => ∃ (T : Addr) (k : List Key) (v : V) (q : Addr), kvs[n]? = some (k, v) ∧ x = .ref T ∧ H T = none ∧ H q = some (.tup (k.map kV)) ∧ H' = upd H T (.tup [.ref q, v]), fun n H => H d = some (.frz o (.dT kvs)) ∧ kvs.length ≤ n⟩
section
variable {P : Program} {w : World} {K : PySem.W.Frag} {d : Addr} {o : Obj} {es : Array DictEntry} {ep : Nat}
theorem turn_itemsT {kvs : List (List Key × V)} {elts : List Expr} {kk : Nat} {tpos : Pos} (it : Addr) (hod : o.data = .dict es ep) :
    Turn P w K (.Tuple elts kk tpos) (Itit d o kvs) [it] it (fun n h => ∃ ok ov, IsItemIter h it d n kvs.length ep ok ov) where
  mem := List.mem_singleton.mpr rfl
  obj := fun n h st b hb => by
    obtain ⟨ok, ov, e⟩ := st
    rw [List.mem_singleton.mp hb]
    exact ⟨_, e, fun v z => nomatch z⟩
  keep := fun n h h' st k => by
    obtain ⟨ok, ov, e⟩ := st
    exact ⟨ok, ov, k it (List.mem_singleton.mpr rfl) _ e⟩
  item := by
    intro X hP hw hK hc n pins s σ H E I hf st hg
    subst hP hw hK
    obtain ⟨lk, hn⟩ := hg
    obtain ⟨_, es2, ep2, dat, sz, raw, ent⟩ := locked_raw I lk
    obtain ⟨rfl, rfl⟩ := dict_ep hod dat
    obtain ⟨⟨k, v⟩, hkv⟩ : ∃ r, kvs[n]? = some r := ⟨kvs[n], List.getElem?_eq_getElem hn⟩
    obtain ⟨en, q, he, ke, hq, rv⟩ := ent n k v hkv
    obtain ⟨ok, ov, hit⟩ := st
    rw [← sz] at hit
    have hlt : n < es2.size := by omega
    have een : es2[n] = en := by
      rw [Array.getElem?_eq_getElem hlt] at he
      exact Option.some.inj he
    have ilt : it < s.heap.objs.size := Heap.lt_size hit
    refine DT.nextI hit raw hlt fun h1 out tup big keep => ?_
    rw [een] at out tup
    refine ⟨_, rfl, wpAny_letOwnedTupleGo_items (s := { s with heap := h1 }) out fun h2 he2 sb => ?_⟩
    have tup2 : h2.get? s.heap.objs.size = some { cls := .type "tuple", data := .seq #[en.key, en.val] } := (sb.2 _ (Nat.ne_of_gt ilt)).trans tup
    have new : ObjOk X.prog X.w (upd H s.heap.objs.size (.tup [.ref q, v])) h2 s.heap.objs.size (.tup [.ref q, v]) :=
      ⟨by show 2 ≤ sizeLine; decide, [en.key, en.val], .cons ke (.cons rv .nil), ⟨_, tup2, rfl, _, rfl⟩⟩
    have I2 : Inv X pins σ (upd H s.heap.objs.size (.tup [.ref q, v])) { s with heap := h2 } :=
      I.turnedNew (t' := s.toks) (ch := [it]) (fun b ob hb e => by
        have nb : b ≠ it := fun z => hb (List.mem_singleton.mpr z)
        exact (sb.2 b nb).trans (keep b ob nb e)) hf (Nat.le_refl _) new
    refine ⟨.ref s.heap.objs.size, _, I2, rfl, ⟨_, k, v, q, hkv, rfl, I.hok.fresh (Nat.le_refl _), hq, rfl⟩, ⟨en.key, en.val, ?_⟩, fun b hb => ?_⟩
    · rw [← sz]
      exact he2
    · rw [List.mem_singleton.mp hb, upd_ne (Nat.ne_of_lt ilt)]
      exact (hf it (List.mem_singleton.mpr rfl)).1
  done := by
    intro X hP hw hK hc n pins s σ H E I hf st hg
    subst hP hw hK
    obtain ⟨lk, hn⟩ := hg
    obtain ⟨q0, q1, q2, q3, q4, q5⟩ := hf it (List.mem_singleton.mpr rfl)
    obtain ⟨_, es2, ep2, dat, sz, raw, _⟩ := locked_raw I lk
    obtain ⟨rfl, rfl⟩ := dict_ep hod dat
    obtain ⟨ok, ov, hit⟩ := st
    rw [← sz] at hit
    exact DT.endI (I.ok.hd hc) hit raw (by omega) fun h1 eb => ⟨rfl, I.turned (t' := s.toks) (fun b ob hb e => eb b ob hb e) q0 q1 q3 q4 q5⟩
  self := fun A n s Q E st h => by
    obtain ⟨_, _, e⟩ := st
    exact PySem.W.kcp_self e h
end
/-- over the items of a locked dict -/
def iItemsT (td : TE) : TI := fun σ H R => td σ H fun x H1 => ∃ (d : Addr) (o : Obj) (vs : List (List Key × V)), x = .ref d ∧ H1 d = some (.frz o (.dT vs)) ∧ R (Itit d o vs) H1
section
variable {X : Cx} {e : Expr} {td : TE}
theorem pi_itemsT {elts : List Expr} {kk : Nat} {tpos apos cpos : Pos} (he : PE X e td) (hbase : attributeBase e "items" X.env (eval e X.env) = eval e X.env := by rfl) (hline : (apos.endLine == cpos.line) = true := by rfl) :
    PI X (.Tuple elts kk tpos) (.Call (.Attribute e "items" apos) [] [] cpos) (iItemsT td) := by
  refine ⟨fun pin s0 st0 H0 R0 I0 h0 => ?_⟩
  refine wpAny_Call_method (T := "dict") (id := "dict.items") hbase rfl hline F.plainAttrs_dict F.slot_dict_items F.type_dict_items (thn (he.run pin s0 st0 H0 _ I0 h0) fun u s1 ⟨x, H1, I1, rx, d, o, vs, ex, lk, q⟩ => ?_)
  subst ex
  obtain rfl : u = Value.ref d := rx
  obtain ⟨ns, es, ep, dat, sz, raw, _⟩ := locked_raw I1 lk
  obtain ⟨t1, t2, _⟩ := isD_at I1 (.inr ⟨vs, .inr ⟨o, lk⟩⟩)
  refine ⟨t1, t2, ?_⟩
  have I3 : Inv X pin st0 H1 { s1 with heap := s1.heap.push { cls := .type "dict_items", data := .fields #[.ref d] } } := I1.kept (t' := s1.toks) fun b ob z => Heap.get?_push_of_some _ z
  have fin : wpAny (model X.prog X.w) X.A (pyIter (.ref s1.heap.objs.size)) (PIE X pin st0 (.Tuple elts kk tpos) R0) X.xe { s1 with heap := s1.heap.push { cls := .type "dict_items", data := .fields #[.ref d] } } := by
    refine DT.iterI (d := d) (es := es) (ep := ep) ⟨_, Heap.get?_push_size _ rfl, rfl, rfl⟩ (raw.push _) (pi_one (tk := s1.toks) I3 _ (turn_itemsT _ dat) ⟨.none, .none, ?_⟩ q)
    rw [← sz]
    exact Heap.get?_push_size _ rfl
  show wpAny _ _ (callWith cpos (.builtin "dict.items") [.ref d] [] []) _ X.xe s1
  exact method_meetsIn F.slot_dict_items F.entry_dict_items rfl (PySem.evalArgs_none ⟨rfl, raw.typeIs, F.args_dict_items_1 _, _, DT.meetsItems (es := es) (ep := ep) ns, raw, fin⟩)
end
end Y

/-! Y: part 26: [.. for (a, b), c in x.items()], x a dict with tuple keys. -/
namespace Y
open PySem PySem.Spec PyProof.Rows L2
theorem rpT_get {F : Hp} : ∀ {vs : List (List Key × V)} {ds : List (List Key × D)}, RpT F vs ds → ∀ {n : Nat} {k : List Key} {v : V}, vs[n]? = some (k, v) → ∃ d, ds[n]? = some (k, d) ∧ Rp F v d
  | _, _, .nil, n, k, v, e => by simp at e
  | _, _, .cons a r, 0, k, v, e => by
    simp only [List.getElem?_cons_zero, Option.some.injEq, Prod.mk.injEq] at e
    obtain ⟨rfl, rfl⟩ := e
    exact ⟨_, rfl, a⟩
  | _, _, .cons a r, n + 1, k, v, e => by
    simp only [List.getElem?_cons_succ] at e ⊢
    exact rpT_get r e
/-- the target ((a, b), c) -/
@[reducible] def wTg3 (ja jb jc : Nat) : WG := wTgt (wgCons (wTgt (wgCons (wName ja) (wgCons (wName jb) wgNil))) (wgCons (wName jc) wgNil))
@[reducible] def it3 (k : Int × Int × Int) : D × Bool := (.tup [.tup [.int k.1, .int k.2.1], .int k.2.2], true)
def gT3 (K : PySem.W.Frag) (ja jb jc : Nat) : TG := gTup K 2 (gCons (gTup K 2 (gCons (gName ja) (gCons (gName jb) gNil))) (gCons (gName jc) gNil))
@[reducible] def wLcT (i ja jb jc : Nat) (we : WE) (ws : List Nat) : WE := fun ex Γ Q => ∃ (kvs : List (List Key × D)) (ks : List (Int × Int × Int)), gt Γ i = some (.dat (.dt kvs) true) ∧ kvs = ks.map (fun k => ([Sum.inl k.1, Sum.inl k.2.1], D.int k.2.2)) ∧ ks.length ≤ sizeLine ∧
  lcGo (wTg3 ja jb jc) wYes we ws [] (ks.map it3) [] true (lkIn i kvs Γ) fun ds f Γ2 => Q (.lst ds) f (lkOut Γ2)
section
variable {X : Cx} {E : XK}
theorem lcT_run {tt : TT} {te : TE} {we : WE} {ws : List Nat} {i ja jb jc : Nat} (kt : ST X E0 tt wYes) (ke : SE X E0 te we) (hja : ja ∈ ws) (hjb : jb ∈ ws) (hjc : jc ∈ ws)
    {R : Rl} {F H1 : Hp} {σ : L2.St} {Γ1 : En} {d : Addr} {od : Obj} {vs : List (List Key × V)} {kvs : List (List Key × D)} {ks : List (Int × Int × Int)} {Q : List D → Bool → En → Prop} {Qt : VK} (gK : R.K = X.K) (h1 : Hd (rL R F d od vs kvs) F H1 σ Γ1) (lk1 : H1 d = some (.frz od (.dT vs))) (hF : F d = some (.dT vs)) (hr : RpT F vs kvs) (ek : kvs = ks.map (fun k => ([Sum.inl k.1, Sum.inl k.2.1], D.int k.2.2))) (hz : ks.length ≤ sizeLine)
    (eq : ∀ p F' H' Γ' ds fr vals, Hd (rL R F d od vs kvs) F' H' σ Γ' → Nx σ F H1 Γ1 F' H' Γ' → F' p = none → upd R.H0 d (.frz od (.dT vs)) p = none → ¬ Ow σ Γ' p → H' p = some (.lst vals) → RpAll (fF (rL R F d od vs kvs) F' fr) vals ds → H1 p = none → Q ds fr Γ' → Qt (.ref p) H')
    (q : lcGo (wTg3 ja jb jc) wYes we ws [] (ks.map it3) [] true Γ1 Q) (D0 : Addr) (hD : H1 D0 = none) :
    ∃ W : Nat → Nat → Hp → Prop, (∃ m, W 0 m (upd H1 D0 (.lst []))) ∧ ∀ n m Hc, W n m Hc →
      ((Itit d od vs).stop n Hc ∧ Qt (.ref D0) Hc) ∨ ((Itit d od vs).go n Hc ∧ ∃ N : Hp → Prop, (∀ H', N H' → ∃ m', m' < m ∧ W (n + 1) m' H') ∧ ∀ x H', (Itit d od vs).yld n Hc x H' → gT3 X.K ja jb jc x (wipe σ ws) H' fun σ2 H2 => wipe σ2 ws = wipe σ ws ∧ tt σ2 H2 fun b H3 =>
        if b = true then te σ2 H3 fun y H4 => ∃ acc, H4 D0 = some (.lst acc) ∧ acc.length < sizeLine ∧ N (upd H4 D0 (.lst (acc ++ [y]))) else N H3) := by
  obtain ⟨hn, fn, zn, on⟩ := h1.newO (o := .lst []) hD
  have lvs : vs.length = ks.length := by
    have := congrArg List.length (rpT_keys hr)
    rw [List.length_map, List.length_map, ek, List.length_map] at this
    exact this
  have gl0 : Go X (rL R F d od vs kvs) E0 (fun _ _ => False) := go_none gK
  refine ⟨fun n m Hc => m = ks.length - n ∧ n ≤ ks.length ∧ ∃ Fc Γc acc f vals, Hd (rL R F d od vs kvs) Fc Hc σ Γc ∧ Nx σ F H1 Γ1 Fc Hc Γc ∧ Hc D0 = some (.lst vals) ∧ RpAll (fF (rL R F d od vs kvs) Fc f) vals acc ∧ vals.length ≤ n ∧ Fc D0 = none ∧ ¬ Ow σ Γc D0 ∧
      lcGo (wTg3 ja jb jc) wYes we ws [] ((ks.map it3).drop n) acc f Γc Q, ⟨ks.length, rfl, Nat.zero_le _, F, Γ1, [], true, [], hn, Nx.refl.poke hD, upd_same, .nil, Nat.le_refl _, fn, on, q⟩, ?_⟩
  rintro n m Hc ⟨em, hnn, Fc, Γc, acc, f, vals, hc, nc, eD, rc, hlen, fD, oD, q2⟩
  have lock : Hc d = some (.frz od (.dT vs)) := hc.base d _ upd_same fun z => by
    have y := (hc.iof d z).1
    rw [nc.ex _ _ hF] at y
    cases y
  by_cases hlt : n < ks.length
  · rw [drop_cons (by rw [List.length_map]; exact hlt), List.getElem_map] at q2
    obtain ⟨_, q2⟩ := q2
    refine .inr ⟨⟨lock, by omega⟩, fun H' => ∃ Fc Γc acc f vals, Hd (rL R F d od vs kvs) Fc H' σ Γc ∧ Nx σ F H1 Γ1 Fc H' Γc ∧ H' D0 = some (.lst vals) ∧ RpAll (fF (rL R F d od vs kvs) Fc f) vals acc ∧ vals.length ≤ n + 1 ∧ Fc D0 = none ∧ ¬ Ow σ Γc D0 ∧
      lcGo (wTg3 ja jb jc) wYes we ws [] ((ks.map it3).drop (n + 1)) acc f Γc Q, fun H' z => ⟨ks.length - (n + 1), by omega, rfl, hlt, z⟩, fun x H2 hy => ?_⟩
    obtain ⟨T, k, v, qa, hk, ex, hT, hqa, eH⟩ := hy
    subst ex
    subst eH
    obtain ⟨dv, edv, rv⟩ := rpT_get hr hk
    rw [ek, List.getElem?_map, List.getElem?_eq_getElem hlt] at edv
    have edv' : ([Sum.inl ks[n].1, Sum.inl ks[n].2.1], D.int ks[n].2.2) = (k, dv) := Option.some.inj edv
    have e1 : k = [Sum.inl ks[n].1, Sum.inl ks[n].2.1] := (congrArg Prod.fst edv').symm
    have e2 : dv = D.int ks[n].2.2 := (congrArg Prod.snd edv').symm
    subst e1
    subst e2
    have ev : v = .int ks[n].2.2 := rp_int rv
    subst ev
    have h3 := (hc.newO (o := .tup [.ref qa, .int ks[n].2.2]) hT).1
    have n3 : Nx σ Fc Hc Γc Fc (upd Hc T (.tup [.ref qa, .int ks[n].2.2])) Γc := Nx.refl.newO hT
    have hq2 : upd Hc T (.tup [.ref qa, .int ks[n].2.2]) qa = some (.tup (List.map kV [Sum.inl ks[n].1, Sum.inl ks[n].2.1])) := by
      rw [upd_ne (fun z => by rw [z, hT] at hqa; cases hqa)]
      exact hqa
    refine ⟨T, _, rfl, .inl (.inl upd_same), rfl, _, _, rfl, ⟨qa, _, rfl, .inl (.inl hq2), rfl, _, _, rfl, _, _, rfl, rfl, _, _, rfl, rfl, ?_⟩⟩
    have h4 := (((h3.wiped ws).put (i := ja) (v := kV (Sum.inl ks[n].1)) (s := .dat (.int ks[n].1) true) (.int _) rfl).put (i := jb) (v := kV (Sum.inl ks[n].2.1)) (s := .dat (.int ks[n].2.1) true) (.int _) rfl).put (i := jc) (v := .int ks[n].2.2) (s := .dat (.int ks[n].2.2) true) (.int _) rfl
    generalize hσ4 : (((wipe σ ws).set ja (some (kV (Sum.inl ks[n].1)))).set jb (some (kV (Sum.inl ks[n].2.1)))).set jc (some (.int ks[n].2.2)) = σ4 at h4
    have out4 : ∀ j, j ∉ ws → σ4[j]? = σ[j]? := fun j hj => by
      rw [← hσ4, List.getElem?_set_ne (fun z => hj (by rw [← z]; exact hjc)), List.getElem?_set_ne (fun z => hj (by rw [← z]; exact hjb)), List.getElem?_set_ne (fun z => hj (by rw [← z]; exact hja))]
      exact wipe_out hj
    have len4 : σ4.length = σ.length := by rw [← hσ4, List.length_set, List.length_set, List.length_set, wipe_length]
    have l0 := (h3.wiped ws).len
    have ow4 : ∀ a, Ow σ4 (st (st (st (wp Γc ws) ja (some (.dat (.int ks[n].1) true))) jb (some (.dat (.int ks[n].2.1) true))) jc (some (.dat (.int ks[n].2.2) true))) a → Ow σ Γc a := fun a z => by
      rw [← hσ4] at z
      exact ow_wiped (ow_put rfl l0 (ow_put rfl (by rw [st_length, List.length_set]; exact l0) (ow_put rfl (by rw [st_length, st_length, List.length_set, List.length_set]; exact l0) z)))
    refine ⟨wipe_same len4 out4, ?_⟩
    have back : ∀ {F6 H6 Γ6}, Hd (rL R F d od vs kvs) F6 H6 σ4 Γ6 → Nx σ4 Fc (upd Hc T (.tup [.ref qa, .int ks[n].2.2])) (st (st (st (wp Γc ws) ja (some (.dat (.int ks[n].1) true))) jb (some (.dat (.int ks[n].2.1) true))) jc (some (.dat (.int ks[n].2.2) true))) F6 H6 Γ6 → Hd (rL R F d od vs kvs) F6 H6 σ (rs Γc Γ6 ws) ∧ Nx σ Fc Hc Γc F6 H6 (rs Γc Γ6 ws) ∧ H6 D0 = some (.lst vals) ∧ F6 D0 = none ∧ ¬ Ow σ (rs Γc Γ6 ws) D0 := fun {F6 H6 Γ6} h6 x6 => by
      have nb := n3.block ow4 x6 out4
      have eD2 : upd Hc T (.tup [.ref qa, .int ks[n].2.2]) D0 = some (.lst vals) := by
        rw [upd_ne (fun z => by rw [← z, eD] at hT; cases hT)]
        exact eD
      refine ⟨h3.unwiped h6 x6.ex len4 out4, nb, x6.keep D0 _ eD2 (fun z => oD (ow4 D0 z)), ?_, fun z => oD (nb.ow D0 z)⟩
      cases z : F6 D0 with
      | none => rfl
      | some u =>
        rcases nb.new D0 u z with y | y | y
        · rw [fD] at y; cases y
        · rw [eD] at y; cases y
        · exact absurd y oD
    have q3 : wYes ex0 (st (st (st (wp Γc ws) ja (some (.dat (.int ks[n].1) true))) jb (some (.dat (.int ks[n].2.1) true))) jc (some (.dat (.int ks[n].2.2) true))) fun b Γ2 => ifB b (we ex0 Γ2 fun d' fr Γ3 => lcGo (wTg3 ja jb jc) wYes we ws [] ((ks.map it3).drop (n + 1)) (acc ++ [d']) (f && fr) (rs Γc Γ3 ws) Q) (lcGo (wTg3 ja jb jc) wYes we ws [] ((ks.map it3).drop (n + 1)) acc f (rs Γc Γ2 ws) Q) := q2
    refine kt _ Fc _ σ4 _ _ _ _ gl0 h4 (fun b F5 H5 Γ5 h5 x5 q5 => ?_) q3
    cases b with
    | true =>
      rw [if_pos rfl]
      refine ke _ F5 H5 σ4 Γ5 _ _ _ gl0 h5 (fun v F6 H6 Γ6 d' fr h6 x6 r6 q6 => ?_) q5
      obtain ⟨h7, n7, e7, f7, o7⟩ := back h6 (x5.trans x6)
      refine ⟨vals, e7, by have := line63; omega, F6, rs Γc Γ6 ws, acc ++ [d'], f && fr, vals ++ [v], h7.poke f7 o7 zn, (nc.trans n7).poke hD, upd_same, ?_, ?_, f7, o7, q6⟩
      · exact rp_bothF (rc.mono (fF_mono n7.ex)) r6
      · rw [List.length_append, List.length_singleton]; omega
    | false =>
      rw [if_neg Bool.false_ne_true]
      obtain ⟨h7, n7, e7, f7, o7⟩ := back h5 x5
      exact ⟨F5, rs Γc Γ5 ws, acc, f, vals, h7, nc.trans n7, e7, rc.mono (fF_mono n7.ex), by omega, f7, o7, q5⟩
  · have e : n = ks.length := by omega
    subst e
    rw [List.drop_of_length_le (by rw [List.length_map]; exact Nat.le_refl _)] at q2
    obtain ⟨_, q2⟩ := q2
    exact .inl ⟨⟨lock, by omega⟩, eq D0 Fc Hc Γc acc f vals hc nc fD zn oD eD rc hD q2⟩
end
end Y

/-! Y: part 27: [.. for (a, b), c in x.items()], the rule. -/
namespace Y
open PySem PySem.Spec PyProof.Rows L2
section
variable {R : Rl} {F H F' H' : Hp} {σ : L2.St} {Γ : En} {d : Addr} {vs : List (List Key × V)} {kvs : List (List Key × D)} {i : Nat} {a : Addr}
theorem Hd.unlock (h : Hd R F H σ Γ) (hF : F d = some (.dT vs)) (h0 : R.H0 d = none) : Hd R F (upd H d (.dT vs)) σ Γ where
  sub := fun a u e => by
    by_cases ha : a = d
    · subst ha
      rw [hF] at e
      cases e
      exact .inl upd_same
    · rcases h.sub a u e with q | ⟨q, o, q2⟩
      · exact .inl (by rw [upd_ne ha]; exact q)
      · exact .inr ⟨q, o, by rw [upd_ne ha]; exact q2⟩
  base := fun a o e n => by
    rw [upd_ne (fun z => by rw [z, h0] at e; cases e)]
    exact h.base a o e n
  f0 := h.f0
  new := h.new
  iof := fun a e => by
    obtain ⟨z1, z2, z3⟩ := h.iof a e
    exact ⟨z1, z2, by rw [upd_ne (fun z => by rw [z, hF] at z1; cases z1)]; exact z3⟩
  len := h.len
  sl := fun j s e => by
    obtain ⟨v, e1, ok⟩ := h.sl j s e
    refine ⟨v, e1, ?_⟩
    cases s with
    | own o fr =>
      obtain ⟨p, e2, e3, e4, t⟩ := ok
      exact ⟨p, e2, e3, e4, t.mono (Ex.refl _) fun u k => by rw [upd_ne (fun z => by rw [z, hF] at e3; cases e3)]; exact k⟩
    | ino o =>
      obtain ⟨p, e2, e3, t⟩ := ok
      have z1 := (h.iof p e3).1
      exact ⟨p, e2, e3, t.mono (Ex.refl _) fun u k => by rw [upd_ne (fun z => by rw [z, hF] at z1; cases z1)]; exact k⟩
    | dat x fr => exact ok
    | old x => exact ok
    | raw u => exact ok
    | scr _ => exact ok
  sep := h.sep
theorem ow_out (o : Ow σ (lkOut Γ) a) : Ow σ Γ a := by
  obtain ⟨j, t, e1, e2, e3⟩ := o
  rw [gt_lb] at e1
  cases q : gt Γ j with
  | none => rw [q] at e1; cases e1
  | some s =>
    rw [q] at e1
    cases s with
    | own o2 fr => exact ⟨j, _, q, rfl, e3⟩
    | ino o2 => exact ⟨j, _, q, rfl, e3⟩
    | dat x fr => cases e1; cases e2
    | old x => cases e1; cases e2
    | raw u => cases e1; cases e2
    | scr _ => cases e1
theorem ow_in (o : Ow σ (lkIn i kvs Γ) a) : Ow σ Γ a := by
  obtain ⟨j, t, e1, e2, e3⟩ := o
  by_cases hj : j = i
  · subst hj
    have hl := gt_lt e1
    unfold lkIn at e1 hl
    rw [st_length] at hl
    rw [gt_st_same hl] at e1
    cases e1
    cases e2
  · unfold lkIn at e1
    rw [gt_st_ne hj, gt_lk] at e1
    cases q : gt Γ j with
    | none => rw [q] at e1; cases e1
    | some s =>
      rw [q] at e1
      cases s with
      | own o2 fr => exact ⟨j, _, q, rfl, e3⟩
      | ino o2 => exact ⟨j, _, q, rfl, e3⟩
      | dat x fr => cases e1; cases e2
      | old x => cases e1; cases e2
      | raw u => cases e1; cases e2
      | scr _ => cases e1
end
section
variable {X : Cx} {E : XK} {elt : Expr} {scope : Scope} {own : List (Str × Nat)} {pos p ppos cpos t1 t2 pa pb pc : Pos} {k1 k2 : Nat} {x a b c : Str} {we : WE}
theorem pg3 {Z : Cx} {ja jb jc : Nat} (hc : Z.calm = true) (hN : Z.N.Nodup) (ha : Z.N[ja]? = some a := by rfl) (hb : Z.N[jb]? = some b := by rfl) (hcc : Z.N[jc]? = some c := by rfl) (la : Loc Z.env.scope a := by first | exact Or.inl rfl | exact Or.inr rfl) (lb : Loc Z.env.scope b := by first | exact Or.inl rfl | exact Or.inr rfl) (lc : Loc Z.env.scope c := by first | exact Or.inl rfl | exact Or.inr rfl)
    (fa : Z.fn a = true ∨ Z.env.scope.names.lookup a = some .local := by first | exact .inl rfl | exact .inr rfl | assumption) (fb : Z.fn b = true ∨ Z.env.scope.names.lookup b = some .local := by first | exact .inl rfl | exact .inr rfl | assumption) (fc : Z.fn c = true ∨ Z.env.scope.names.lookup c = some .local := by first | exact .inl rfl | exact .inr rfl | assumption)
    (g1 : (assignEach [.Name a pa, .Name b pb] Z.env).map (·.2) = assign (.Name a pa) Z.env :: (assignEach [.Name b pb] Z.env).map (·.2) := by rfl) (g2 : (assignEach [.Name b pb] Z.env).map (·.2) = assign (.Name b pb) Z.env :: (assignEach [] Z.env).map (·.2) := by rfl)
    (g3 : (assignEach [.Tuple [.Name a pa, .Name b pb] k1 t1, .Name c pc] Z.env).map (·.2) = assign (.Tuple [.Name a pa, .Name b pb] k1 t1) Z.env :: (assignEach [.Name c pc] Z.env).map (·.2) := by rfl) (g4 : (assignEach [.Name c pc] Z.env).map (·.2) = assign (.Name c pc) Z.env :: (assignEach [] Z.env).map (·.2) := by rfl)
    (n1 : (assignEach [.Name a pa, .Name b pb] Z.env).length = 2 := by rfl) (s1 : (assignEach [.Name a pa, .Name b pb] Z.env).findIdx? (·.1) = none := by rfl) (n2 : (assignEach [.Tuple [.Name a pa, .Name b pb] k1 t1, .Name c pc] Z.env).length = 2 := by rfl) (s2 : (assignEach [.Tuple [.Name a pa, .Name b pb] k1 t1, .Name c pc] Z.env).findIdx? (·.1) = none := by rfl) :
    PG Z (.Tuple [.Tuple [.Name a pa, .Name b pb] k1 t1, .Name c pc] k2 t2) (gT3 Z.K ja jb jc) :=
  pg_tup hc (pgs_cons (pg_tup hc (pgs_cons (pg_name hN ha la fa) (pgs_cons (pg_name hN hb lb fb) pgs_nil g2) g1) n1 s1) (pgs_cons (pg_name hN hcc lc fc) pgs_nil g4) g3) n2 s2
theorem pw_lcT (i ja jb jc : Nat) (hc : X.calm = true) (hNd : X.N.Nodup) (ok : BlkOk X.N X.env.scope scope own) (hg : Blk X scope fun Y => PG Y (.Tuple [.Tuple [.Name a pa, .Name b pb] k1 t1, .Name c pc] k2 t2) (gT3 X.K ja jb jc)) (he : Blk X scope fun Y => PWE Y E0 elt we) (hja : ja ∈ own.map (·.2)) (hjb : jb ∈ own.map (·.2)) (hjc : jc ∈ own.map (·.2))
    (hN : X.N[i]? = some x := by rfl) (hv : Vis X.env.scope x := by first | exact Or.inl rfl | exact Or.inr (Or.inl rfl) | exact Or.inr (Or.inr rfl)) (hd : (x == ("__debug__" : Str)) = false := by decide) (hcd : (x == ("__classdict__" : Str)) = false := by decide)
    (hbase : attributeBase (.Name x p) "items" X.env (eval (.Name x p) X.env) = eval (.Name x p) X.env := by rfl) (hline : (ppos.endLine == cpos.line) = true := by rfl) (hs : ∀ z, foldedSetIterable (.Call (.Attribute (.Name x p) "items" ppos) [] [] cpos) X.env z = pure z := by intro _; rfl) :
    PWE X E (.ListComp elt [⟨.Tuple [.Tuple [.Name a pa, .Name b pb] k1 t1, .Name c pc] k2 t2, .Call (.Attribute (.Name x p) "items" ppos) [] [] cpos, [], 0⟩] scope pos) (wLcT i ja jb jc we (own.map (·.2))) := by
  obtain ⟨tt, ptt, kt⟩ := blk_t (X := X) (E := E0) (scope := scope) (ifs := []) (w := wYes) fun s H C cl fp => pwts_nil
  obtain ⟨te, pte, ke⟩ := blk_e he
  have base := pe_lc (pos := pos) hc hNd (pi_itemsT (pe_var hN hv hd hcd) hbase hline) ok hg ptt pte hs
  refine ⟨fun σ H Q => tLockE (tLc (iItemsT (tVar i)) (gT3 X.K ja jb jc) tt te (own.map (·.2))) σ H Q ∨ tLc (iItemsT (tVar i)) (gT3 X.K ja jb jc) tt te (own.map (·.2)) σ H Q, ⟨fun pins s σ H Q I q => ?_⟩, fun R F H σ Γ ex Q Qt g h eq w => ?_⟩
  · rcases q with q | q
    · exact (pe_lock base).run pins s σ H Q I q
    · exact base.run pins s σ H Q I q
  · obtain ⟨kvs, ks, eg, ek, hz, w⟩ := w
    obtain ⟨v, e1, okv⟩ := h.sl i _ eg
    obtain ⟨d, vs, ev, hnF, hrn⟩ : ∃ (d : Addr) (vs : List (List Key × V)), v = .ref d ∧ nw R.H0 F d = some (.dT vs) ∧ RpT (nw R.H0 F) vs kvs := by
      cases okv with
      | dt z r => exact ⟨_, _, rfl, z, r⟩
    subst ev
    have h0 : R.H0 d = none := by
      cases q : R.H0 d with
      | none => rfl
      | some u => unfold nw at hnF; rw [q] at hnF; cases hnF
    have hF : F d = some (.dT vs) := nw_ex _ _ hnF
    have il := gt_lt eg
    have hr : RpT F vs kvs := hrn.mono nw_ex
    -- back from the locked frame, the new list frozen
    have fin : ∀ {od : Obj} {H1 : Hp} {p0 F' H' Γ' ds fr vals}, (∀ a, H1 a = none → H a = none) → Hd (rL R F d od vs kvs) F' H' σ Γ' → Nx σ F H1 (lkIn i kvs Γ) F' H' Γ' → F' p0 = none → upd R.H0 d (.frz od (.dT vs)) p0 = none → ¬ Ow σ Γ' p0 → H' p0 = some (.lst vals) → RpAll (fF (rL R F d od vs kvs) F' fr) vals ds → H1 p0 = none → Hd R (upd F' p0 (.lst vals)) H' σ (lkOut Γ') ∧ Rpf R (upd F' p0 (.lst vals)) fr (.ref p0) (.lst ds) ∧ Ex F (upd F' p0 (.lst vals)) ∧ (∀ a, Ow σ (lkOut Γ') a → Ow σ Γ a) ∧ (∀ a u, upd F' p0 (.lst vals) a = some u → F a = some u ∨ H a = none ∨ Ow σ Γ a) := fun {od H1 p0 F' H' Γ' ds fr vals} hn h' x' f' z' o' e' r' n' => by
      obtain ⟨h2, at_⟩ := h'.frz f' o' z' e'
      have xF : Ex F' (upd F' p0 (.lst vals)) := Ex.new f'
      have h3 := h.ofL h2 hF h0 hrn
      have xr : ∀ {G : Hp} {fr : Bool}, Ex (fF (rL R F d od vs kvs) G fr) (fF R G fr) := fun {G fr} => by
        cases fr with
        | true =>
          intro a u e
          have e' : nw (upd R.H0 d (.frz od (.dT vs))) G a = some u := e
          unfold nw at e'
          show nw R.H0 G a = some u
          unfold nw
          by_cases ha : a = d
          · rw [ha, upd_same] at e'
            cases e'
          · rw [upd_ne ha] at e'
            exact e'
        | false => exact Ex.refl _
      refine ⟨h3, Rp.mono xr (.lst (at_ fr) (r'.mono (fF_mono xF))), x'.ex.trans xF, fun a z => ow_in (x'.ow a (ow_out z)), fun a u e => ?_⟩
      by_cases ha : a = p0
      · rw [ha]; exact .inr (.inl (hn p0 n'))
      · rw [upd_ne ha] at e
        rcases x'.new a u e with q | q | q
        · exact .inl q
        · exact .inr (.inl (hn a q))
        · exact .inr (.inr (ow_in q))
    rcases h.sub d _ hF with hd | ⟨_, od, hd⟩
    · left
      refine ⟨d, .dT vs, hd, True.intro, fun od => ?_⟩
      have h1 : Hd (rL R F d od vs kvs) F (upd H d (.frz od (.dT vs))) σ (lkIn i kvs Γ) := h.toL hF h0 e1 hr (.inl hd) rfl il
      refine ⟨_, e1, d, od, vs, rfl, upd_same, fun D0 hD => ?_⟩
      refine lcT_run (Qt := fun v H' => H' d = some (.frz od (.dT vs)) ∧ Qt v (upd H' d (.dT vs))) (i := i) kt ke hja hjb hjc g.K h1 upd_same hF hr ek hz (fun p0 F' H' Γ' ds fr vals h' x' f' z' o' e' r' n' q' => ?_) w D0 hD
      have lk : H' d = some (.frz od (.dT vs)) := h'.base d _ upd_same fun z => by
        have y := (h'.iof d z).1
        rw [x'.ex _ _ hF] at y
        cases y
      refine ⟨lk, ?_⟩
      obtain ⟨k1, k2, k3, k4, k5⟩ := fin (fun a e => by
        by_cases ha : a = d
        · rw [ha, upd_same] at e
          cases e
        · rw [upd_ne ha] at e
          exact e) h' x' f' z' o' e' r' n'
      refine eq _ _ _ _ _ _ (k1.unlock (k3 _ _ hF) h0) ⟨k3, fun a o e n => ?_, k4, k5, fun a e => ?_⟩ k2 q'
      · by_cases ha : a = d
        · rw [ha] at e ⊢
          rw [hd] at e
          rw [upd_same, e]
        · rw [upd_ne ha]
          exact x'.keep a o (by rw [upd_ne ha]; exact e) fun z => n (ow_in z)
      · by_cases ha : a = d
        · rw [ha, upd_same]
          simp
        · rw [upd_ne ha]
          exact x'.stay a (by rw [upd_ne ha]; exact e)
    · right
      have h1 : Hd (rL R F d od vs kvs) F H σ (lkIn i kvs Γ) := h.toL hF h0 e1 hr (.inr ⟨od, hd⟩) (upd_self hd).symm il
      refine ⟨_, e1, d, od, vs, rfl, hd, fun D0 hD => ?_⟩
      refine lcT_run (i := i) kt ke hja hjb hjc g.K h1 hd hF hr ek hz (fun p0 F' H' Γ' ds fr vals h' x' f' z' o' e' r' n' q' => ?_) w D0 hD
      obtain ⟨k1, k2, k3, k4, k5⟩ := fin (fun a e => e) h' x' f' z' o' e' r' n'
      exact eq _ _ _ _ _ _ k1 ⟨k3, fun a o e n => x'.keep a o e fun z => n (ow_in z), k4, k5, x'.stay⟩ k2 q'
end
end Y

/-! Y: part 28: {(..): v for ..}: a dict with tuple keys by a comprehension. -/
namespace Y
open PySem PySem.Spec PyProof.Rows L2
/-- the store of a tuple key by a comprehension -/
theorem setT_ok {Z : Cx} {pn : List (Addr × Obj)} {σ : L2.St} {G : Hp} {t : Shared} {Er : Value → Shared → Prop} {d b : Addr} {kvs : List (List Key × V)} {k : List Key} {v : V} {u r : Value} {Qq : Unit → Shared → Prop} (hu : Z.A.units < cLine) (J : Inv Z pn σ G t) (gd : G d = some (.dT kvs)) (gb : G b = some (.tup (k.map kV))) (small : kvs.length < sizeLine)
    (ru : RelV (.ref b) u) (rr : RelV v r) (then_ : ∀ t', Inv Z pn σ (upd G d (.dT (putK kvs k v))) t' → Qq () t') : wpAny (model Z.prog Z.w) Z.A (dictSet d u r) Qq Er t := by
  cases (show u = Value.ref b from ru)
  obtain ⟨z, sysd, xs, rel, dd⟩ := dt_of J.hok gd
  have fits : xs.length ≤ sizeLine := by rw [← Paired.length rel]; exact z
  have fits2 : (putK kvs k v).length ≤ sizeLine := by have := length_putK kvs k v; omega
  refine wpAny_dictSet_heap (hsz := fits) (show (tupleKind (mixKind Z.prog Z.w)).room Z.A from hu) (key_of J.hok gb) dd fun h1 d1 same => then_ _ ?_
  obtain ⟨q, es, ep, hq, y2, y3, y4, _, y5⟩ := d1
  refine d_write J (by rw [gd]; exact True.intro) same ⟨q, hq⟩ ⟨fits2, sysd, _, (rel.put k gb rr).keeps fun c ys ec => ?_, q, es, ep, hq, y2, y3, y4, y5⟩
  rw [upd_ne (ne_of ec gd (fun z => nomatch z))]
  exact ec

section
variable {X : Cx}
/-- {key: v for target in iter if ..}, every key a tuple -/
def tDcT (ti : TI) (tg : TG) (tt : TT) (tk tv : TE) (ws : List Nat) : TE := fun σ G Q => ti σ G fun J G1 => ∀ d, G1 d = none → ∃ M : Nat → Nat → Hp → Prop, (∃ m, M 0 m (upd G1 d (.dT []))) ∧ ∀ n m Gc, M n m Gc →
  (J.stop n Gc ∧ Q (.ref d) Gc) ∨ (J.go n Gc ∧ ∃ N : Hp → Prop, (∀ G', N G' → ∃ m', m' < m ∧ M (n + 1) m' G') ∧ ∀ x G', J.yld n Gc x G' → tg x (wipe σ ws) G' fun τ G2 => wipe τ ws = wipe σ ws ∧ tt τ G2 fun b G3 =>
    if b = true then tk τ G3 fun y G4 => tv τ G4 fun z G5 => ∃ kvs k b, y = .ref b ∧ G5 b = some (.tup (k.map kV)) ∧ G5 d = some (.dT kvs) ∧ kvs.length < sizeLine ∧ N (upd G5 d (.dT (putK kvs k z))) else N G3)
abbrev InBlk (X : Cx) (scope : Scope) (Φ : Cx → Prop) : Prop := ∀ (s : Shared) (H : Hp) (C : Addr) (cl : List (Str × Addr)) (fp : List Addr), Φ (X.blk s H scope (compEnvC scope cl C X.env) fp)
theorem pe_dcT {kx vx tg iter : Expr} {ifs : List Expr} {scope : Scope} {own : List (Str × Nat)} {pos : Pos} {ti : TI} {g : TG} {tt : TT} {tk tv : TE} (hu : X.A.units < cLine) (hc : X.calm = true) (hN : X.N.Nodup) (hi : PI X tg iter ti) (ok : BlkOk X.N X.env.scope scope own)
    (hg : InBlk X scope fun Z => PG Z tg g) (ht : InBlk X scope fun Z => PTs Z ifs tt) (hk : InBlk X scope fun Z => PE Z kx tk) (he : InBlk X scope fun Z => PE Z vx tv) (hs : ∀ x, foldedSetIterable iter X.env x = pure x := by intro _; rfl) :
    PE X (.DictComp kx vx [⟨tg, iter, ifs, 0⟩] scope pos) (tDcT ti g tt tk tv (own.map (·.2))) := by
  refine ⟨fun pn t0 σ G Q J0 ask => ?_⟩
  rw [arm_eval_DictComp]
  have cells : ∀ y ∈ scope.names, y.2 = .free → ∃ c, X.env.cells.lookup y.1 = some c := fun y hy e => (ok.free y hy e).elim (fun k => J0.ok.has _ (.inl k)) fun k => J0.ok.has _ (.inr k)
  refine wpAny_comprehension_free (use := none) rfl hs (closure_ok cells) ok.kind (fun y hy e => by rw [ok.uniq y hy, e]) (thn (hi.run pn t0 σ G _ J0 ask) fun xv t1 h1 => thn h1 fun itv t2 h2 => ?_)
  obtain ⟨it, fp, tn, W, G2, e, J2, T, at0, fpo, ask2⟩ := h2
  subst e
  refine wpAny_newObj_type (newEnv_comp ?_)
  -- d: where the dict will lie; t3: the world with it
  generalize hd : t2.heap.objs.size = d
  have free_d : G2 d = none := J2.hok.fresh (Nat.le_of_eq hd)
  obtain ⟨M, ⟨m0, first⟩, turn⟩ := ask2 d free_d
  generalize ht3 : ({ t2 with heap := t2.heap.push { cls := .type "dict", data := .dict #[] } } : Shared) = t3
  have hp3 : t3.heap = t2.heap.push { cls := .type "dict", data := .dict #[] } := by rw [← ht3]
  have J3 : Inv X pn σ (upd G2 d (.dT [])) t3 := by
    rw [← ht3]
    refine J2.laid (t' := t2.toks) (fun b o e => Heap.get?_push_of_some _ e) (Nat.le_of_eq hd) ?_
    rw [← hd]
    exact dt_empty t2.heap J2.big
  have below : ∀ b ∈ fp, b < t2.heap.objs.size := fun b hb => (T.obj _ _ at0 b hb).elim fun o e => Heap.lt_size e.1
  have fp3 : ∀ b ∈ fp, FpOk X pn (upd G2 d (.dT [])) b ∧ b < t3.heap.objs.size := fun b hb => by
    have lt := below b hb
    refine ⟨⟨?_, (fpo b hb).2⟩, by rw [hp3, Heap.size_push]; exact Nat.lt_succ_of_lt lt⟩
    rw [upd_ne (by rw [← hd]; exact Nat.ne_of_lt lt)]
    exact (fpo b hb).1
  have at3 : tn 0 t3.heap := T.keep _ _ _ at0 fun b _ o e => by rw [hp3]; exact Heap.get?_push_of_some _ e
  have J4 := block_start J3 ok hN fp3
  obtain ⟨cl, hcl⟩ : ∃ cl, cellsFrom (t3.heap.objs.size + 1) scope.names (cloFrom X.env.cells scope.names []) = cl := ⟨_, rfl⟩
  obtain ⟨G3, hG3⟩ : ∃ G3, upd G2 d (.dT []) = G3 := ⟨_, rfl⟩
  show codeAny _ _ (.compStart (.DictComp kx vx [⟨tg, iter, ifs, 0⟩] scope pos) 0 (.ref it) (.ref d) (compEnvC scope (cellsFrom (t3.heap.objs.size + 1) scope.names (cloFrom X.env.cells scope.names [])) t3.heap.objs.size X.env)) _ { t3 with heap := pushCells (t3.heap.push { cls := .type "dict", data := .dict #[] }) scope.names }
  rw [hcl, hG3] at J4
  rw [hcl]
  rw [hG3] at J3 first fp3
  have pg := hg t3 G3 t3.heap.objs.size cl fp
  have pt := ht t3 G3 t3.heap.objs.size cl fp
  have pk := hk t3 G3 t3.heap.objs.size cl fp
  have pv := he t3 G3 t3.heap.objs.size cl fp
  have fp0 : ∀ b ∈ fp, G3 b = none := fun b hb => (fp3 b hb).1.1
  obtain ⟨ce, hce⟩ : ∃ ce, compEnvC scope cl t3.heap.objs.size X.env = ce := ⟨_, rfl⟩
  rw [hce] at J4 pg pt pk pv
  rw [hce]
  have ceL : ce.locals = t3.heap.objs.size := by rw [← hce]; rfl
  obtain ⟨t4, ht4⟩ : ∃ t4 : Shared, { t3 with heap := pushCells (t3.heap.push { cls := .type "dict", data := .dict #[] }) scope.names } = t4 := ⟨_, rfl⟩
  rw [ht4] at J4
  rw [ht4]
  have at4 : tn 0 t4.heap := T.keep _ _ _ at3 fun b _ o e => by rw [← ht4]; exact pushCells_keeps _ _ _ _ (Heap.get?_push_of_some _ e)
  have stands : ∀ {σ' : L2.St} {G' : Hp} {t' : Shared}, Inv (X.blk t3 G3 scope ce fp) [] σ' G' t' → (∀ b ∈ fp, G' b = none) → ∀ b ∈ fp, FpOk (X.blk t3 G3 scope ce fp) [] G' b := fun {σ' G' t'} J' none_ b hb => by
    exact ⟨none_ b hb, (J'.ok.exf b hb).1, J'.ok.exfs b hb, .inl hb, fun x c e => (J'.ok.exf b hb).2 x c e, fun p hp => absurd (show p ∈ ([] : List (Addr × Obj)) ++ [] from hp) (by simp)⟩
  have done_ := T.done (X.blk t3 G3 scope ce fp) rfl rfl rfl hc
  have item_ := T.item (X.blk t3 G3 scope ce fp) rfl rfl rfl hc
  have back : ∀ {G' : Hp} {t' : Shared}, Inv (X.blk t3 G3 scope ce fp) [] (wipe σ (own.map (·.2))) G' t' → (∀ b ∈ fp, G' b = none) → Inv X pn σ G' t' := fun {G' t'} J' _ => by
    exact J3.call' (ch := fp) J'.os J'.base J'.hok J'.bare fun b hb => ⟨(fp3 b hb).1.2.2.2.1, (fp3 b hb).1.2.1, (fp3 b hb).1.2.2.2.2.1, (fp3 b hb).1.2.2.2.2.2⟩
  have ends : ∀ {G' : Hp} {t' : Shared}, Inv (X.blk t3 G3 scope ce fp) [] (wipe σ (own.map (·.2))) G' t' → (∀ b ∈ fp, G' b = none) → Q (.ref d) G' → compPost (model X.prog X.w) X.A X.xe none (EP X pn σ Q) (.ref d) t3.heap.objs.size (.ok .next) t' := fun {G' t'} J' n' q' => by
    have J5 := back J' n'
    have nC : G' ce.locals = none := J'.free
    obtain ⟨m, hn, _⟩ := J'.loc
    have hn : t'.heap.Ns ce.locals m := hn
    rw [ceL] at nC hn
    obtain ⟨f0, f1, f2, f3, f4, f5⟩ := J3.fpOk (Nat.le_refl _) nC
    exact ⟨m, hn, fun h'' sb => ⟨.ref d, G', J5.turned (t' := t'.toks) (fun b o hb e => (sb.2 b hb).trans e) f0 f1 f3 f4 f5, rfl, q'⟩⟩
  have loop : codeAny (model X.prog X.w) X.A (.compLoop (.DictComp kx vx [⟨tg, iter, ifs, 0⟩] scope pos) 0 (.ref it) (.ref d) ce) (compPost (model X.prog X.w) X.A X.xe none (EP X pn σ Q) (.ref d) t3.heap.objs.size) t4 := by
    refine compLoop_anyD (fun m t' => ∃ n G', Inv (X.blk t3 G3 scope ce fp) [] (wipe σ (own.map (·.2))) G' t' ∧ tn n t'.heap ∧ (∀ b ∈ fp, G' b = none) ∧ M n m G') ?_ m0 ⟨0, G3, J4, at4, fp0, first⟩
    rintro m t5 ⟨n, G5, J5, at5, n5, w5⟩
    rcases turn n m G5 w5 with ⟨stop, q⟩ | ⟨go, N, hN', step⟩
    · refine thnF (done_ n [] t5 _ G5 (fun _ _ => False) J5 (stands J5 n5) at5 stop) fun r t6 h6 => ?_
      obtain ⟨hr, J6⟩ := h6
      subst hr
      exact ends J6 n5 q
    · refine thnF (item_ n [] t5 _ G5 (fun _ _ => False) J5 (stands J5 n5) at5 go) fun r t6 ⟨u, hr, h6⟩ => ?_
      subst hr
      refine thnF h6 fun _ t7 ⟨x, G7, J7, rx, y7, at7, n7⟩ => ?_
      have P7 := J7.pinned (stands J7 n7) (T.obj _ _ at7)
      -- a turn's end, with the next heap
      have over : ∀ {τ : L2.St} {G' : Hp} {t' : Shared}, wipe τ (own.map (·.2)) = wipe σ (own.map (·.2)) → Inv (X.blk t3 G3 scope ce fp) ([] ++ pinsAt fp t7.heap) τ G' t' → N G' → ∃ m', m' < m ∧ ∃ n G', Inv (X.blk t3 G3 scope ce fp) [] (wipe σ (own.map (·.2))) G' t' ∧ tn n t'.heap ∧ (∀ b ∈ fp, G' b = none) ∧ M n m' G' := fun {τ G' t'} hw J' hN2 => by
        obtain ⟨m', lt, w'⟩ := hN' G' hN2
        have pinned : ∀ b ∈ fp, ∀ o, t7.heap.get? b = some o → t'.heap.get? b = some o ∧ G' b = none := fun b hb o e => by
          have z := J'.pin (b, o) (List.mem_append_right _ (List.mem_append_right _ (mem_pinsAt hb e)))
          exact ⟨z.1, z.2.1⟩
        refine ⟨m', lt, n + 1, G', (J'.unpinned (pins := [])).weak (by rw [← hw, wipe_length]) (fun j v e => ?_), T.keep _ _ _ at7 fun b hb o e => (pinned b hb o e).1, fun b hb => ?_, w'⟩
        · exact (wipe_some (by rw [hw]; exact e)).1
        · exact (T.obj _ _ at7 b hb).elim fun o e => (pinned b hb o e.1).2
      refine thnF (pg.run _ t7 _ G7 x u _ P7 rx (step x G7 y7)) fun _ t8 ⟨τ, G8, J8, hw, q8⟩ => thnF (pt.run _ t8 τ G8 _ J8 q8) fun b t9 ⟨G9, J9, q9⟩ => ?_
      cases b with
      | false =>
        rw [if_neg Bool.false_ne_true] at q9 ⊢
        exact over hw J9 q9
      | true =>
        rw [if_pos rfl] at q9 ⊢
        refine thnF (pk.run _ t9 τ G9 _ J9 q9) fun zk t10 ⟨yk, G10, J10, r10, q10⟩ => thnF (pv.run _ t10 τ G10 _ J10 q10) fun zv t11 ⟨yv, G11, J11, r11, kvs, k, b, ek, eb, ed, lt, nx⟩ => ?_
        subst ek
        exact setT_ok (Z := X.blk t3 G3 scope ce fp) hu J11 ed eb lt r10 r11 fun t12 J12 => over hw J12 nx
  exact codeAny_compStart_dict loop (T.self X.A 0 _ _ _ at4 loop)
end
/-! ### the rule -/
@[reducible] def dcGoT (tg : WG) (tt : WT) (tk te : WE) (vs : List Nat) (dp : Dep) : List (D × Bool) → List (List Key × D) → Bool → En → (List (List Key × D) → Bool → En → Prop) → Prop
  | [], acc, f, Γ, K => depE Γ dp ∧ K acc f Γ
  | x :: xs, acc, f, Γ, K => depE Γ dp ∧ tg x.1 x.2 (wp Γ vs) fun Γ1 => tt ex0 Γ1 fun b Γ2 => ifB b (tk ex0 Γ2 fun y _ Γ3 => te ex0 Γ3 fun d fr Γ4 => (match y with
      | .tup ks => (match keysOf ks with
        | some k => dcGoT tg tt tk te vs dp xs (putD acc k d) (f && fr) (rs Γ Γ4 vs) K
        | none => False)
      | _ => False)) (dcGoT tg tt tk te vs dp xs acc f (rs Γ Γ2 vs) K)
@[reducible] def wDcT (wi : WI) (tg : WG) (tt : WT) (tk te : WE) (vs : List Nat) : WE := fun ex Γ Q => wi ex Γ fun items dp Γ1 => items.length ≤ sizeLine ∧ dcGoT tg tt tk te vs dp items [] true Γ1 fun ds f Γ2 => Q (.dt ds) f Γ2
section
variable {X : Cx} {E : XK}
theorem dcT_run {wi : TI} {g : TG} {tt : TT} {tk te : TE} {w : WI} {wg : WG} {wt : WT} {wk we : WE} {vs sl : List Nat} (ki : SI X E wi w) (kg : SG X sl g wg) (kt : ST X E0 tt wt) (kk : SE X E0 tk wk) (ke : SE X E0 te we) (hsl : ∀ j ∈ sl, j ∈ vs)
    {R : Rl} {F H : Hp} {σ : L2.St} {Γ : En} {ex : EX} {Q : D → Bool → En → Prop} {Qt : VK} (gg : Go X R E ex) (h : Hd R F H σ Γ)
    (eq : ∀ p F' H' Γ' ds fr vals, Hd R F' H' σ Γ' → Nx σ F H Γ F' H' Γ' → F' p = none → R.H0 p = none → ¬ Ow σ Γ' p → H' p = some (.dT vals) → RpT (fF R F' fr) vals ds → H p = none → Q (.dt ds) fr Γ' → Qt (.ref p) H') (q : wDcT w wg wt wk we vs ex Γ Q) : tDcT wi g tt tk te vs σ H Qt := by
  refine ki R F H σ Γ ex _ _ gg h (fun J F1 H1 Γ1 items dp h1 x1 it q => ?_) q
  obtain ⟨hsz, q⟩ := q
  intro D0 hD
  obtain ⟨hn, fn, zn, on⟩ := h1.newO (o := .dT []) hD
  have hH : H D0 = none := by
    cases z : H D0 with
    | none => rfl
    | some o => exact absurd hD (x1.stay D0 (by rw [z]; simp))
  refine ⟨fun i m Hc => m = items.length - i ∧ i ≤ items.length ∧ ∃ Fc Γc acc f vals, Hd R Fc Hc σ Γc ∧ Nx σ F1 H1 Γ1 Fc Hc Γc ∧ Hc D0 = some (.dT vals) ∧ RpT (fF R Fc f) vals acc ∧ vals.length ≤ i ∧ Fc D0 = none ∧ ¬ Ow σ Γc D0 ∧
      dcGoT wg wt wk we vs dp (items.drop i) acc f Γc (fun ds f Γ2 => Q (.dt ds) f Γ2), ⟨items.length, rfl, Nat.zero_le _, F1, Γ1, [], true, [], hn, Nx.refl.poke hD, upd_same, .nil, Nat.le_refl _, fn, on, q⟩, ?_⟩
  rintro i m Hc ⟨em, hi, Fc, Γc, acc, f, vals, hc, nc, eD, rc, hlen, fD, oD, q2⟩
  have dpo : depE Γc dp → depOk σ σ Γc dp := fun z y hy => ⟨rfl, z y hy⟩
  by_cases hlt : i < items.length
  · rw [drop_cons hlt] at q2
    obtain ⟨de, q2⟩ := q2
    obtain ⟨it1, _⟩ := it i Fc Hc σ Γc nc.ex hc (dpo de)
    obtain ⟨go, yld⟩ := it1 items[i].1 items[i].2 (List.getElem?_eq_getElem hlt)
    refine .inr ⟨go, fun H' => ∃ Fc Γc acc f vals, Hd R Fc H' σ Γc ∧ Nx σ F1 H1 Γ1 Fc H' Γc ∧ H' D0 = some (.dT vals) ∧ RpT (fF R Fc f) vals acc ∧ vals.length ≤ i + 1 ∧ Fc D0 = none ∧ ¬ Ow σ Γc D0 ∧
      dcGoT wg wt wk we vs dp (items.drop (i + 1)) acc f Γc (fun ds f Γ2 => Q (.dt ds) f Γ2), fun H' z => ⟨items.length - (i + 1), by omega, rfl, hlt, z⟩, fun x H2 hy => ?_⟩
    obtain ⟨F2, xF, xH, sub, new, rx⟩ := yld x H2 hy
    have h3 := hc.grow xH xF sub new
    have n3 : Nx σ Fc Hc Γc F2 H2 Γc := .grow xF xH new
    refine kg R F2 H2 _ _ x _ _ _ _ gg.K (h3.wiped vs) rx (fun σ4 Γ4 h4 s4 q4 => ?_) q2
    have out4 : ∀ j, j ∉ vs → σ4[j]? = σ[j]? := fun j hj => (s4.out j fun z => hj (hsl j z)).trans (wipe_out hj)
    have ow4 : ∀ a, Ow σ4 Γ4 a → Ow σ Γc a := fun a z => ow_wiped (s4.ow a z)
    have len4 : σ4.length = σ.length := s4.len.trans (wipe_length _ _)
    refine ⟨wipe_same len4 out4, ?_⟩
    have back : ∀ {F6 H6 Γ6}, Hd R F6 H6 σ4 Γ6 → Nx σ4 F2 H2 Γ4 F6 H6 Γ6 → Hd R F6 H6 σ (rs Γc Γ6 vs) ∧ Nx σ Fc Hc Γc F6 H6 (rs Γc Γ6 vs) ∧ H6 D0 = some (.dT vals) ∧ F6 D0 = none ∧ ¬ Ow σ (rs Γc Γ6 vs) D0 := fun {F6 H6 Γ6} h6 x6 => by
      have o4 : ¬ Ow σ4 Γ4 D0 := fun z => oD (ow4 D0 z)
      have nb := n3.block ow4 x6 out4
      have e2 := xH _ _ eD
      refine ⟨h3.unwiped h6 x6.ex len4 out4, nb, x6.keep D0 _ e2 o4, ?_, fun z => oD (nb.ow D0 z)⟩
      cases z : F6 D0 with
      | none => rfl
      | some u =>
        rcases nb.new D0 u z with y | y | y
        · rw [fD] at y; cases y
        · rw [eD] at y; cases y
        · exact absurd y oD
    refine kt R F2 H2 σ4 Γ4 _ _ _ (go_none gg.K) h4 (fun b F5 H5 Γ5 h5 x5 q5 => ?_) q4
    cases b with
    | true =>
      show (if true = true then _ else _)
      rw [if_pos rfl]
      refine kk R F5 H5 σ4 Γ5 _ _ _ (go_none gg.K) h5 (fun y F6 H6 Γ6 dy fy h6 x6 r6 q6 => ?_) q5
      refine ke R F6 H6 σ4 Γ6 _ _ _ (go_none gg.K) h6 (fun v F7 H7 Γ7 d fr h7 x7 r7 q7 => ?_) q6
      cases dy with
      | tup ks =>
        cases qk : keysOf ks with
        | none => simp only [qk] at q7
        | some ky =>
          simp only [qk] at q7
          have hy : ∃ b ws, y = .ref b ∧ H7 b = some (.tup ws) ∧ RpAll (fF R F7 fy) ws ks := by
            have r6 := r6.mono (fF_mono x7.ex)
            cases r6 with
            | tup e r => exact ⟨_, _, rfl, RdD.tup (h7.sub _ _ (fF_ex _ _ e)), r⟩
          obtain ⟨b, ws, ey, eb, rk⟩ := hy
          have ew := keysOf_rp qk rk
          subst ew
          subst ey
          obtain ⟨h8, n8, e8, f8, o8⟩ := back h7 ((x5.trans x6).trans x7)
          refine ⟨vals, ky, b, rfl, eb, e8, by omega, F7, rs Γc Γ7 vs, putD acc ky d, f && fr, putK vals ky v, h8.poke f8 o8 zn, (nc.trans n8).poke hD, upd_same, ?_, ?_, f8, o8, q7⟩
          · exact rpT_put ((rc.mono (fF_mono n8.ex)).mono ex_and) (rpb r7)
          · have := length_putK vals ky v
            omega
      | _ => exact q7.elim
    | false =>
      show (if false = true then _ else _)
      rw [if_neg Bool.false_ne_true]
      obtain ⟨h7, n7, e7, f7, o7⟩ := back h5 x5
      exact ⟨F5, rs Γc Γ5 vs, acc, f, vals, h7, nc.trans n7, e7, rc.mono (fF_mono n7.ex), by omega, f7, o7, q5⟩
  · have e : i = items.length := by omega
    subst e
    rw [List.drop_length] at q2
    obtain ⟨de, q2⟩ := q2
    obtain ⟨_, it2⟩ := it items.length Fc Hc σ Γc nc.ex hc (dpo de)
    exact .inl ⟨it2 (Nat.le_refl _), eq D0 Fc Hc Γc acc f vals hc (x1.trans nc) fD zn oD eD rc hH q2⟩
variable {tg iter kx vx : Expr} {ifs : List Expr} {scope : Scope} {own : List (Str × Nat)} {pos : Pos} {sl : List Nat} {w : WI} {wg : WG} {wt : WT} {wk we : WE}
theorem pw_dcT (hu : X.A.units < cLine) (hc : X.calm = true) (hN : X.N.Nodup) (ok : BlkOk X.N X.env.scope scope own) (hi : PWI X E tg iter w) (hg : Blk X scope fun Y => PWG Y sl tg wg) (ht : Blk X scope fun Y => PWTs Y E0 ifs wt) (hk : Blk X scope fun Y => PWE Y E0 kx wk) (he : Blk X scope fun Y => PWE Y E0 vx we) (hsl : ∀ j ∈ sl, j ∈ own.map (·.2))
    (hs : ∀ x, foldedSetIterable iter X.env x = pure x := by intro _; rfl) : PWE X E (.DictComp kx vx [⟨tg, iter, ifs, 0⟩] scope pos) (wDcT w wg wt wk we (own.map (·.2))) := by
  obtain ⟨wi, pi, ki⟩ := hi
  obtain ⟨g, pg, kg⟩ := blk_g hg
  obtain ⟨tt, ptt, kt⟩ := blk_t ht
  obtain ⟨tk, ptk, kk⟩ := blk_e hk
  obtain ⟨te, pte, ke⟩ := blk_e he
  refine ⟨_, pe_dcT hu hc hN pi ok pg ptt ptk pte hs, fun R F H σ Γ ex Q Qt gg h eq q => ?_⟩
  refine dcT_run ki kg kt kk ke hsl gg h (fun p F' H' Γ' ds fr vals h' x' f' z' o' e' r' n' q' => ?_) q
  obtain ⟨h2, at_⟩ := h'.frz f' o' z' e'
  exact eq _ _ H' Γ' (.dt ds) fr h2 (x'.frz f' n') (.dt (at_ fr) (r'.mono (fF_mono (Ex.new f')))) q'
end
end Y

/-! Y: part 29: a, b = .., one of them seen from a comprehension. -/
namespace Y
open PySem PySem.Spec PyProof.Rows L2
section
variable {X : Cx} {E : XK} {a b : Expr} {pos : Pos} {x y : Str} {ma mb : WM}
@[reducible] def wPar2 (i j : Nat) (ma mb : WM) : WS := fun P Γ => ma P.xe Γ fun s Γ1 => mb P.xe Γ1 fun t Γ2 => P.nx (st (st Γ2 i (some s)) j (some t))
theorem pws_asg2 {px py pt : Pos} {kt k2 pt2} (i j : Nat) (ha : PWM X E a ma) (hb : PWM X E b mb) (hc : X.calm = true) (hN : X.N.Nodup)
    (hi : X.N[i]? = some x := by rfl) (hj : X.N[j]? = some y := by rfl)
    (hx : Loc X.env.scope x := by first | exact Or.inl rfl | exact Or.inr rfl) (hy : Loc X.env.scope y := by first | exact Or.inl rfl | exact Or.inr rfl)
    (fx : X.fn x = true ∨ X.env.scope.names.lookup x = some .local := by first | exact .inl rfl | exact .inr rfl | assumption) (fy : X.fn y = true ∨ X.env.scope.names.lookup y = some .local := by first | exact .inl rfl | exact .inr rfl | assumption)
    (hs : swapsWithSole [.Tuple [.Name x px, .Name y py] kt pt] (.Tuple [a, b] k2 pt2) pos.line X.env = pure false := by rfl) (hw : swappedStores [.Tuple [.Name x px, .Name y py] kt pt] (.Tuple [a, b] k2 pt2) X.env = pure none := by rfl)
    (h1 : (assignEach [.Tuple [.Name x px, .Name y py] kt pt] X.env).map (·.2) = [assign (.Tuple [.Name x px, .Name y py] kt pt) X.env] := by rfl)
    (g1 : (assignEach [.Name x px, .Name y py] X.env).map (·.2) = assign (.Name x px) X.env :: (assignEach [.Name y py] X.env).map (·.2) := by rfl) (g2 : (assignEach [.Name y py] X.env).map (·.2) = assign (.Name y py) X.env :: (assignEach [] X.env).map (·.2) := by rfl)
    (hn : (assignEach [.Name x px, .Name y py] X.env).length = 2 := by rfl) (hst : (assignEach [.Name x px, .Name y py] X.env).findIdx? (·.1) = none := by rfl)
    (he : starEach (a :: [b]) X.env = (false, eval a X.env) :: starEach [b] X.env := by rfl) (he2 : starEach (b :: []) X.env = (false, eval b X.env) :: starEach [] X.env := by rfl) :
    PWS X E (.Assign [.Tuple [.Name x px, .Name y py] kt pt] (.Tuple [a, b] k2 pt2) pos) (wPar2 i j ma mb) := by
  obtain ⟨ta, pa, ka⟩ := ha
  obtain ⟨tb, pb, kb⟩ := hb
  refine ⟨_, ps_asg (pe_tup (pa_cons pa (pa_cons pb pa_nil he2) he)) (pg_tup hc (pgs_cons (pg_name hN hi hx fx) (pgs_cons (pg_name hN hj hy fy) pgs_nil g2) g1) hn hst) hs hw h1, fun R F H σ Γ P T g h s w => ?_⟩
  refine ka R F H σ Γ P.xe _ _ g h (fun v F1 H1 Γ1 s1 h1 x1 ok1 o1 c1 w1 => kb R F1 H1 σ Γ1 P.xe _ _ g h1 (fun u F2 H2 Γ2 s2 h2 x2 ok2 o2 c2 w2 => ?_) w1) w
  have n1 := ow_dat (R := R) (F := F) (F' := F1) (H' := H1) o1
  have n2 := ow_dat (R := R) (F := F1) (F' := F2) (H' := H2) o2
  have ok1a := sl_stay ok1 c1 n1 x2
  have n1a : ∀ p, v = .ref p → owny s1 = true → ¬ Ow σ Γ2 p := fun p e o z => n1 p e o (x2.ow p z)
  have top : ∀ {F' H' : Hp} {w' : V} {s' : Sl}, SlOk R F' H' w' s' → ((∃ d fr, s' = .dat d fr) ∨ ∃ o fr, s' = .own o fr) → owny s' = true → ∀ p, w' = .ref p → H' p ≠ none := fun {F' H' w' s'} ok cc oo p e => by
    rcases cc with ⟨d, fr, es⟩ | ⟨o, fr, es⟩
    · subst es; cases oo
    · subst es
      obtain ⟨q, e1, _, _, t⟩ := ok
      rw [e] at e1
      cases e1
      obtain ⟨u, hu⟩ := t.there
      rw [hu]
      simp
  have d12 : ∀ p, u = .ref p → owny s2 = true → owny s1 = true → v ≠ .ref p := fun p e o oo ev => by
    obtain ⟨q, _, _, e2, _, hq, _⟩ := o2 o
    rw [e] at e2
    cases e2
    exact top ok1 c1 oo p ev hq
  refine ⟨by show 2 ≤ sizeLine; decide, fun T0 hT => ?_⟩
  have h4 := (h2.newO (o := .tup [v, u]) hT).1
  have x4 : Nx σ F2 H2 Γ2 F2 (upd H2 T0 (.tup [v, u])) Γ2 := Nx.refl.newO hT
  have ok1b := sl_stay ok1a c1 n1a x4
  have ok2a := sl_stay ok2 c2 n2 x4
  have p1 := put_any (i := i) h4 ok1b c1 n1a
  have p2 := put_any (i := j) p1 ok2a c2 fun p e o => ow_next h4 c1 (n2 p e o) (d12 p e o)
  exact ⟨T0, [v, u], rfl, .inl (.inl upd_same), rfl, v, _, rfl, u, _, rfl, rfl, s.nx F2 _ _ _ p2 ((x1.trans x2).trans x4).ex w2⟩
end
end Y

/-! k11 alone: promises, wps. -/
namespace Q
open PySem L2 Y
/-- a dict's rows that tell at which point each line points -/
def headsD (l : Ar) : List (List Key × D) := l.map fun p => ([Sum.inl (min p.1 p.2), Sum.inl (max p.1 p.2)], .int p.2)
/-- .. how many turns more a line's second point takes than its first one, both ways -/
def stepsL (l : Ar) (e : Int → Nat) : List (Int × Int × Int) := l.flatMap fun a => [(a.1, a.2, (e a.2 : Int) - e a.1), (a.2, a.1, (e a.1 : Int) - e a.2)]
def stepsD (l : Ar) (e : Int → Nat) : List (List Key × D) := (stepsL l e).map fun k => ([Sum.inl k.1, Sum.inl k.2.1], .int k.2.2)
def difD (n : Int) (e : Int → Nat) : List Int := (pts n).map fun k => (e k : Int) - e 1
/-- the least of all -/
def isMin (n : Int) (e : Int → Nat) (m : Nat) : Prop := (∃ x, 1 ≤ x ∧ x ≤ n ∧ e x = m) ∧ ∀ k, 1 ≤ k → k ≤ n → m ≤ e k
def fs_heads_in : FS := fun ds Q _ => ∃ (l : Ar), ds = [arD l] ∧ l.length ≤ 30 ∧ (l.Pairwise fun p q => ends2 p ≠ ends2 q) ∧ Q (.dt (headsD l)) true
def fs_check_goal : FS := fun ds Q _ => ∃ (n : Int) (l : Ar) (e : Int → Nat), ds = [arD (flp l e), arD l, .int n] ∧ Ok n l ∧ Q .non true
def fs_steps_in : FS := fun ds Q _ => ∃ (n : Int) (l : Ar) (e : Int → Nat), ds = [arD l, arD (flp l e)] ∧ Ok n l ∧ cons l e ∧ Q (.dt (stepsD l e)) true
def fs_differences_in : FS := fun ds Q _ => ∃ (n : Int) (l : Ar) (e : Int → Nat), ds = [.int n, arD l, arD (flp l e)] ∧ Ok n l ∧ cons l e ∧ Q (inD (difD n e)) true
def fs_table_in : FS := fun ds Q _ => ∃ (n : Int) (l : Ar) (e : Int → Nat), ds = [.int n, arD l, arD (flp l e)] ∧ Ok n l ∧ brd n l = [] ∧ cons l e ∧ ∀ m, isMin n e m → Q (inD (tab n fun k => e k - m)) true
def fs_run_in : FS := fun ds Q _ => ∃ (n : Int) (l : Ar) (e : Int → Nat), ds = [.int n, arD l, inD (tab n e)] ∧ Ok n l ∧ brd n l = [] ∧ cons l e ∧ (∀ k, 1 ≤ k → k ≤ n → e k ≤ 60) ∧ ∀ ts fr, legal n l ts → ply l ts = flp l e → Q (inD ts) fr
def fs_check_two : FS := fun ds Q _ => ∃ (n : Int) (l : Ar) (e : Int → Nat), ds = [.int n, arD l, arD (flp l e)] ∧ Ok n l ∧ Q .non true
def fs_least_table : FS := fun ds Q _ => ∃ (n : Int) (l : Ar) (e : Int → Nat), ds = [.int n, arD l, arD (flp l e)] ∧ Ok n l ∧ brd n l = [] ∧ cons l e ∧ ∀ m, isMin n e m → Q (inD (tab n fun k => e k - m)) true
def fs_run_to : FS := fun ds Q _ => ∃ (n : Int) (l : Ar) (e : Int → Nat), ds = [.int n, arD l, arD (flp l e)] ∧ Ok n l ∧ brd n l = [] ∧ cons l e ∧ (∀ k, 1 ≤ k → k ≤ n → e k ≤ 60) ∧ ∀ ts fr, legal n l ts → ply l ts = flp l e → Q (inD ts) fr
def fs__law_filled : FSM := fun os ds Q => ∃ (k : Nat) (n : Int) (l : Ar) (c : Int → Nat) (m : Nat), ds = [.int n, arD (flp l c), inD (tab n c), .int m] ∧ Ok n l ∧ brd n l = [] ∧ cons l c ∧ (∀ k, 1 ≤ k → k ≤ n → c k ≤ m) ∧ m ≤ 61 ∧ Dr k os ∧ k ≤ 10000000 ∧ ∀ os' ts fr, Dr (k + 800) os' → legal n (flp l c) ts → (∀ k, 1 ≤ k → k ≤ n → ts.count k + c k = m) → ts.length ≤ 800 → Q os' (.tup [inD ts, arD l]) fr
def fs__law_right : FSM := fun os ds Q => ∃ (k : Nat) (n : Int) (l : Ar), ds = [.int n, arD l] ∧ Ok n l ∧ brd n l = [] ∧ Dr k os ∧ k ≤ 1000000 ∧ ∀ os', Dr (k + 5000) os' → Q os' (.bl true) true
def fs__law_again_right : FSM := fun os ds Q => ∃ (k : Nat) (n : Int) (l : Ar), ds = [.int n, arD l] ∧ Ok n l ∧ brd n l = [] ∧ Dr k os ∧ k ≤ 1000000 ∧ ∀ os', Dr (k + 200) os' → Q os' (.bl true) true
@[reducible] def w_heads_in : WS := wRet (wDcT (wItL (wLook 0)) (wName 1) (wYes) (wTup (wCons (wC1 kMin (wLook 1)) (wCons (wC1 kMax (wLook 1)) (wNil)))) (wIx kIx (wLook 1) (wC (.int 1))) [1])
@[reducible] def w_check_goal : WS := wSeq (wDrop (wCall fs_check_arrows (wCons (wVar 0) (wCons (wVar 2) (wNil))))) (wSeq (wSet 3 (wCall fs_heads_in (wCons (wVar 1) (wNil)))) (wSeq (wFor (wItE (wLook 0)) (wTgt (wgCons (wName 4) (wgCons (wName 5) (wgNil)))) (wIfS (wTst (wNotIn (wTup (wCons (wC1 kMin (wLook 5)) (wCons (wC1 kMax (wLook 5)) (wNil)))) (wLook 3))) (wNever) (wNext))) (wIfS (wTst (wOp (kI0 fun i j => .bl (decide (i < j))) (wC1 kLen (wLook 0)) (wC1 kLen (wLook 1)))) (wNever) (wNext))))
@[reducible] def w_steps_in : WS := wSeq (wPar 2 3 (wDat (wCall fs_heads_in (wCons (wVar 1) (wNil)))) (wOwn (wDt))) (wSeq (wFor (wItL (wLook 0)) (wTgt (wgCons (wName 4) (wgCons (wName 5) (wgNil)))) (wSeq (wSet 6 (wC1 kInt (wVal (wOp kEq (wIx kIx (wLook 2) (wTup (wCons (wC2 kMin2 (wVar 4) (wVar 5)) (wCons (wC2 kMax2 (wVar 4) (wVar 5)) (wNil))))) (wVar 4))))) (wPut2 3 (wTup (wCons (wVar 4) (wCons (wVar 5) (wNil)))) (wTup (wCons (wVar 5) (wCons (wVar 4) (wNil)))) (wTup (wCons (wVar 6) (wCons (wOp (kI0 fun i j => .int (i - j)) (wC (.int 0)) (wVar 6)) (wNil))))))) (wRet (wVar 3)))
@[reducible] def w_differences_in : WS := wSeq (wPar3 3 4 5 (wDat (wCall fs_steps_in (wCons (wVar 1) (wCons (wVar 2) (wNil))))) (wOwn (wDisp1 (wC (.int 1)) (wC (.int 0)))) (wOwn (wLst (wCons (wC (.int 1)) (wNil))))) (wSeq (wWhile (wTst (wCmpV kNe (wLook 5) (wLst (wNil)))) (wSeq (wSet 6 (wPop 5)) (wForT 3 7 8 (wIfS (wAnd (wTst (wOp kEq (wVar 7) (wVar 6))) (wTst (wNotIn (wVar 8) (wLook 4)))) (wSeq (wPut 4 (wVar 8) (wOp kAdd (wIx kIx (wLook 4) (wVar 7)) (wIx kIx (wLook 3) (wTup (wCons (wVar 7) (wCons (wVar 8) (wNil))))))) (wDrop (wApp 5 (wVar 8)))) (wNext))))) (wSeq (wIfS (wTst (wC1 kAny (wVal (wLcT 3 7 8 10 (wOp kNe (wIx kIx (wLook 4) (wVar 8)) (wOp kAdd (wIx kIx (wLook 4) (wVar 7)) (wVar 10))) [7, 8, 10])))) (wRet (wC .non)) (wNext)) (wRet (wLc (wItR2 (wC (.int 1)) (wOp kAdd (wVar 0) (wC (.int 1)))) (wName 9) (wYes) (wIx kIx (wLook 4) (wVar 9)) [9]))))
@[reducible] def w_table_in : WS := wSeq (wPar 3 4 (wDat (wCall fs_differences_in (wCons (wVar 0) (wCons (wVar 1) (wCons (wVar 2) (wNil)))))) (wDat (wCall fs_barred_in (wCons (wVar 0) (wCons (wVar 1) (wNil)))))) (wSeq (wIfS (wTst (wOp kIsN (wVar 3) (wC .non))) (wRet (wC .non)) (wNext)) (wSeq (wSet 5 (wIf (wTst (wOp kNe (wVar 4) (wLst (wNil)))) (wIx kIx (wLook 3) (wOp (kI0 fun i j => .int (i - j)) (wIx kIx (wLook 4) (wC (.int 0))) (wC (.int 1)))) (wC1 kMin (wLook 3)))) (wSeq (wSet 6 (wLc (wItL (wLook 3)) (wName 7) (wYes) (wOp (kI0 fun i j => .int (i - j)) (wVar 7) (wVar 5)) [7])) (wSeq (wIfS (wOr (wTst (wOp (kI0 fun i j => .bl (decide (i < j))) (wC1 kMin (wLook 6)) (wC (.int 0)))) (wTst (wC1 kAny (wVal (wLc (wItL (wLook 4)) (wName 8) (wYes) (wOp kNe (wIx kIx (wLook 6) (wOp (kI0 fun i j => .int (i - j)) (wVar 8) (wC (.int 1)))) (wC (.int 0))) [8]))))) (wRet (wC .non)) (wNext)) (wRet (wVar 6))))))
@[reducible] def w_run_in : WS := wSeq (wPar2 3 4 (wOwn (wC1 kList (wLook 2))) (wOwn (wLst (wNil)))) (wSeq (wWhile (wTst (wC1 kAny (wVal (wLc (wItL (wLook 3)) (wName 6) (wYes) (wOp (kI0 fun i j => .bl (decide (j < i))) (wVar 6) (wC (.int 0))) [6])))) (wSeq (wSet 5 (wIx kIx (wVal (wLc (wItL (wVal (wCall fs_may_in (wCons (wVar 0) (wCons (wVar 1) (wNil)))))) (wName 5) (wTst (wOp (kI0 fun i j => .bl (decide (j < i))) (wIx kIx (wLook 3) (wOp (kI0 fun i j => .int (i - j)) (wVar 5) (wC (.int 1)))) (wC (.int 0)))) (wVar 5) [5])) (wC (.int 0)))) (wSeq (wSet 1 (wCall fs_turned_in (wCons (wVar 1) (wCons (wVar 5) (wNil))))) (wSeq (wAug 3 (fun i j => i - j) (wOp (kI0 fun i j => .int (i - j)) (wVar 5) (wC (.int 1))) (wC (.int 1))) (wDrop (wApp 4 (wVar 5))))))) (wRet (wVar 4)))
@[reducible] def w_check_two : WS := wSeq (wDrop (wCall fs_check_both (wCons (wVar 0) (wCons (wVar 1) (wNil))))) (wDrop (wCall fs_check_goal (wCons (wVar 2) (wCons (wVar 1) (wCons (wVar 0) (wNil))))))
@[reducible] def w_least_table : WS := wSeq (wDrop (wCall fs_check_two (wCons (wVar 0) (wCons (wVar 1) (wCons (wVar 2) (wNil)))))) (wRet (wCall fs_table_in (wCons (wVar 0) (wCons (wVar 1) (wCons (wVar 2) (wNil))))))
@[reducible] def w_run_to : WS := wSeq (wDrop (wCall fs_check_two (wCons (wVar 0) (wCons (wVar 1) (wCons (wVar 2) (wNil)))))) (wSeq (wSet 3 (wCall fs_table_in (wCons (wVar 0) (wCons (wVar 1) (wCons (wVar 2) (wNil)))))) (wRet (wIf (wTst (wOp kNotN (wVar 3) (wC .non))) (wCall fs_run_in (wCons (wVar 0) (wCons (wVar 1) (wCons (wVar 3) (wNil))))) (wC .non))))
@[reducible] def w__law_filled : WS := wSeq (wSetO 5 (wLst (wNil))) (wSeq (wFor (wItR1 (wOp kMul (wVar 1) (wVar 4))) (wName 6) (wSeq (wSet 7 (wLc (wItL (wVal (wCall fs__law_may (wCons (wVar 1) (wCons (wVar 2) (wNil)))))) (wName 8) (wTst (wOp (kI0 fun i j => .bl (decide (i < j))) (wIx kIx (wLook 3) (wOp (kI0 fun i j => .int (i - j)) (wVar 8) (wC (.int 1)))) (wVar 4))) (wVar 8) [8])) (wSeq (wIfS (wTst (wOp kEq (wVar 7) (wLst (wNil)))) (wRet (wTup (wCons (wVar 5) (wCons (wVar 2) (wNil))))) (wNext)) (wSeq (wSet 8 (wIx kIx (wLook 7) (wOp (kI (fun _ j => 0 < j) fun i j => .int (i % j)) (wC1 kInt (wVal (wCallM 0 fs__law_next (wNil)))) (wC1 kLen (wLook 7))))) (wSeq (wSet 3 (wOp kAdd (wOp kAdd (wSl (wLook 3) (wNoP) (wPart (wOp (kI0 fun i j => .int (i - j)) (wVar 8) (wC (.int 1))))) (wLst (wCons (wOp kAdd (wIx kIx (wLook 3) (wOp (kI0 fun i j => .int (i - j)) (wVar 8) (wC (.int 1)))) (wC (.int 1))) (wNil)))) (wSl (wLook 3) (wPart (wVar 8)) (wNoP)))) (wSeq (wDrop (wApp 5 (wVar 8))) (wSet 2 (wCall fs__law_turned (wCons (wVar 2) (wCons (wVar 8) (wNil))))))))))) (wRet (wTup (wCons (wVar 5) (wCons (wVar 2) (wNil))))))
@[reducible] def w__law_right : WS := wSeq (wSet 3 (wC1 kRepr (wLook 2))) (wSeq (wSet 4 (wCall fs__law_in_order (wCons (wVar 2) (wNil)))) (wSeq (wAsg (wCallM 0 fs__law_played (wCons (wVar 1) (wCons (wVar 2) (wCons (wC (.int 30)) (wNil))))) (wTgt (wgCons (wName 5) (wgCons (wName 6) (wgNil))))) (wSeq (wSet 7 (wLc (wItR2 (wC (.int 1)) (wOp kAdd (wVar 1) (wC (.int 1)))) (wName 14) (wYes) (wC1 kLen (wVal (wLc (wItL (wLook 5)) (wName 16) (wTst (wOp kEq (wVar 16) (wVar 14))) (wVar 16) [16]))) [14])) (wSeq (wSet 8 (wOp kAdd (wC1 kMax (wLook 7)) (wOp (kI (fun _ j => 0 < j) fun i j => .int (i % j)) (wC1 kInt (wVal (wCallM 0 fs__law_next (wNil)))) (wC (.int 2))))) (wSeq (wAsg (wCallM 0 fs__law_filled (wCons (wVar 1) (wCons (wVar 6) (wCons (wVar 7) (wCons (wVar 8) (wNil)))))) (wTgt (wgCons (wName 9) (wgCons (wName 10) (wgNil))))) (wSeq (wIfS (wOr (wTst (wOp kNe (wC1 kLen (wVal (wOp kAdd (wVar 5) (wVar 9)))) (wOp kMul (wVar 1) (wVar 8)))) (wTst (wOp kNe (wCall fs_after_turns (wCons (wVar 1) (wCons (wVar 2) (wCons (wOp kAdd (wVar 5) (wVar 9)) (wNil))))) (wVar 4)))) (wRet (wC (.bl false))) (wNext)) (wSeq (wAsg (wCallM 0 fs__law_filled (wCons (wVar 1) (wCons (wVar 2) (wCons (wOp kMul (wLst (wCons (wC (.int 0)) (wNil))) (wVar 1)) (wCons (wC (.int 1)) (wNil)))))) (wTgt (wgCons (wName 11) (wgCons (wName 10) (wgNil))))) (wSeq (wIfS (wOr (wTst (wOp kNe (wC1 kSorted (wLook 11)) (wLR2 (wC (.int 1)) (wOp kAdd (wVar 1) (wC (.int 1)))))) (wTst (wOp kNe (wCall fs_after_turns (wCons (wVar 1) (wCons (wVar 2) (wCons (wOp kMul (wVar 11) (wC (.int 3))) (wNil))))) (wVar 4)))) (wRet (wC (.bl false))) (wNext)) (wSeq (wIfS (wTst (wOp kNe (wCall fs_least_table (wCons (wVar 1) (wCons (wVar 2) (wCons (wVar 6) (wNil))))) (wLc (wItL (wLook 7)) (wName 15) (wYes) (wOp (kI0 fun i j => .int (i - j)) (wVar 15) (wC1 kMin (wLook 7))) [15]))) (wRet (wC (.bl false))) (wNext)) (wSeq (wIfS (wTst (wOp kNe (wCall fs_after_turns (wCons (wVar 1) (wCons (wVar 6) (wCons (wCall fs_run_to (wCons (wVar 1) (wCons (wVar 6) (wCons (wVar 2) (wNil))))) (wNil))))) (wVar 4))) (wRet (wC (.bl false))) (wNext)) (wSeq (wSet 12 (wCallM 0 fs__law_shuffled (wCons (wCall fs_may_turn (wCons (wVar 1) (wCons (wVar 6) (wNil)))) (wNil)))) (wSeq (wSet 13 (wCall fs_after_turns (wCons (wVar 1) (wCons (wVar 6) (wCons (wVar 12) (wNil)))))) (wRet (wAndV (wOp kNe (wVar 12) (wLst (wNil))) (wAndV (wOp kEq (wVar 13) (wCall fs_after_turns (wCons (wVar 1) (wCons (wVar 6) (wCons (wSlK (wLook 12) (wNeg (wC (.int 1)))) (wNil)))))) (wOp kEq (wC1 kRepr (wLook 2)) (wVar 3)))))))))))))))))
@[reducible] def w__law_again_right : WS := wSeq (wSet 3 (wOp kAdd (wC (.int 1)) (wOp (kI (fun _ j => 0 < j) fun i j => .int (i % j)) (wC1 kInt (wVal (wCallM 0 fs__law_next (wNil)))) (wVar 1)))) (wSeq (wSet 4 (wVar 2)) (wSeq (wFor (wItR1 (wOp kAdd (wOp kMul (wVar 1) (wVar 1)) (wC (.int 1)))) (wName 5) (wSeq (wSet 6 (wCall fs__law_may (wCons (wVar 1) (wCons (wVar 4) (wNil))))) (wSeq (wIfS (wTst (wIn (wVar 3) (wLook 6))) (wRet (wOp kEq (wCall fs_after_turns (wCons (wVar 1) (wCons (wVar 4) (wCons (wLst (wCons (wVar 3) (wNil))) (wNil))))) (wCall fs__law_in_order (wCons (wCall fs__law_turned (wCons (wVar 4) (wCons (wVar 3) (wNil)))) (wNil))))) (wNext)) (wSet 4 (wCall fs__law_turned (wCons (wVar 4) (wCons (wIx kIx (wLook 6) (wOp (kI (fun _ j => 0 < j) fun i j => .int (i % j)) (wC1 kInt (wVal (wCallM 0 fs__law_next (wNil)))) (wC1 kLen (wLook 6)))) (wNil)))))))) (wRet (wC (.bl false)))))
@[reducible] def w_law : WS := wSeq (wForNew 1 (wItL (wVal (wOp kAdd (wSlScr 0 (wPart (wC (.int 6)))) (wLst (wCons (wC (.int 0)) (wNil)))))) (wName 6) (wCallN fs__law_draws (wCons (wVar 6) (wNil))) [6] (wFor (wItL (wVal (wLst (wCons (wC (.int 12)) (wCons (wC (.int 5)) (wNil)))))) (wName 3) (wSeq (wSet 4 (wOp kAdd (wC (.int 1)) (wOp (kI (fun _ j => 0 < j) fun i j => .int (i % j)) (wC1 kInt (wVal (wCallM 1 fs__law_next (wNil)))) (wVar 3)))) (wSeq (wSet 5 (wCallM 1 fs__law_sides (wCons (wVar 4) (wCons (wCallM 1 fs__law_bars (wCons (wVar 4) (wCons (wC (.int 33)) (wNil)))) (wNil))))) (wIfS (wTst (wOp kEq (wCall fs__law_barred (wCons (wVar 4) (wCons (wVar 5) (wNil)))) (wLst (wNil)))) (wIfS (wOr (wNot (wTst (wCallM 1 fs__law_right (wCons (wVar 4) (wCons (wVar 5) (wNil)))))) (wNot (wTst (wCallM 1 fs__law_again_right (wCons (wVar 4) (wCons (wVar 5) (wNil))))))) (wRet (wC (.bl false))) (wNext)) (wNext)))))) (wSeq (wSet 2 (wOp kAdd (wLc (wItR2 (wC (.int 1)) (wC (.int 12))) (wName 7) (wYes) (wLst (wCons (wVar 7) (wCons (wOp kAdd (wVar 7) (wC (.int 1))) (wNil)))) [7]) (wLst (wCons (wLst (wCons (wC (.int 1)) (wCons (wC (.int 12)) (wNil)))) (wNil))))) (wSeq (wIfS (wOr (wNot (wTst (wCallMN fs__law_right (wCallN fs__law_draws (wCons (wC (.int 0)) (wNil))) (wCons (wC (.int 12)) (wCons (wVar 2) (wNil)))))) (wNot (wTst (wCallMN fs__law_again_right (wCallN fs__law_draws (wCons (wC (.int 1)) (wNil))) (wCons (wC (.int 12)) (wCons (wVar 2) (wNil))))))) (wRet (wC (.bl false))) (wNext)) (wRet (wAndV (wCallMN fs__law_right (wCallN fs__law_draws (wCons (wC (.int 0)) (wNil))) (wCons (wC (.int 1)) (wCons (wLst (wNil)) (wNil)))) (wCallMN fs__law_right (wCallN fs__law_draws (wCons (wC (.int 0)) (wNil))) (wCons (wC (.int 3)) (wCons (wLst (wCons (wLst (wCons (wC (.int 1)) (wCons (wC (.int 2)) (wNil)))) (wCons (wLst (wCons (wC (.int 1)) (wCons (wC (.int 3)) (wNil)))) (wCons (wLst (wCons (wC (.int 2)) (wCons (wC (.int 3)) (wNil)))) (wNil))))) (wNil))))))))
end Q

/-! S, part 2: heads_in, check_goal, check_two, steps_in. -/
namespace Q
open PySem L2 Y
-- the head of a wp, unfolded, through tests that are told
local macro_rules | `(tactic| subst_eqs) => `(tactic| ((with_reducible conv => whnf); repeat ((with_reducible first | refine bT rfl ?_ | refine bF rfl ?_ | refine dT rfl ?_ | refine dF rfl ?_ | refine bF (nT rfl) ?_ | refine bT (nF rfl) ?_); (with_reducible conv => whnf))))
/-! ### dict comprehensions with tuple keys -/
def DcItT (tg : WG) (tt : WT) (tk te : WE) (vs : List Nat) (Γ : En) (x : D × Bool) (k : List Key) (d : D) : Prop :=
  ∀ (KT : List Key → D → Bool → En → Prop) (KF : En → Prop), (∀ Γ', rs Γ Γ' vs = Γ → KT k d true Γ') → tg x.1 x.2 (wp Γ vs) fun Γ1 => tt ex0 Γ1 fun b Γ2 => ifB b (tk ex0 Γ2 fun y _ Γ3 => te ex0 Γ3 fun d fr Γ4 => (match y with
      | .tup ks => (match keysOf ks with
        | some k => KT k d fr Γ4
        | none => False)
      | _ => False)) (KF Γ2)
theorem dcT_map {α : Type} {tg : WG} {tt : WT} {tk te : WE} {vs : List Nat} {dp : Dep} {Γ : En} {K : List (List Key × D) → Bool → En → Prop} {its : List (D × Bool)} (l : List α) (src : α → D × Bool) (gk : α → List Key) (gd : α → D) (hd : depE Γ dp)
    (h : ∀ a ∈ l, DcItT tg tt tk te vs Γ (src a) (gk a) (gd a)) (k : K (l.foldl (fun acc a => putD acc (gk a) (gd a)) []) true Γ) (hi : its = l.map src := by rfl) : dcGoT tg tt tk te vs dp its [] true Γ K := by
  subst hi
  have main : ∀ (l : List α) (acc : List (List Key × D)), (∀ a ∈ l, DcItT tg tt tk te vs Γ (src a) (gk a) (gd a)) → K (l.foldl (fun acc a => putD acc (gk a) (gd a)) acc) true Γ → dcGoT tg tt tk te vs dp (l.map src) acc true Γ K := by
    intro l
    induction l with
    | nil => exact fun acc _ k => ⟨hd, k⟩
    | cons a l ih =>
      intro acc h k
      refine ⟨hd, ?_⟩
      refine h a List.mem_cons_self (fun ky d fr Γ4 => dcGoT tg tt tk te vs dp (l.map src) (putD acc ky d) (true && fr) (rs Γ Γ4 vs) K) (fun Γ2 => dcGoT tg tt tk te vs dp (l.map src) acc true (rs Γ Γ2 vs) K) fun Γ' e => ?_
      show dcGoT tg tt tk te vs dp (l.map src) (putD acc (gk a) (gd a)) (true && true) (rs Γ Γ' vs) K
      rw [e]
      exact ih _ (fun y hy => h y (List.mem_cons_of_mem _ hy)) k
  exact main l [] h k
section
variable {κ : Type} [DecidableEq κ]
theorem putD_new {acc : List (κ × D)} {k : κ} {d : D} (h : lookD acc k = none) : putD acc k d = acc ++ [(k, d)] := by
  unfold putD
  rw [any_look, h]
  rfl
theorem look_none {l : List (κ × D)} {k : κ} (h : ∀ p ∈ l, p.1 ≠ k) : lookD l k = none := by
  induction l with
  | nil => rfl
  | cons p l ih => rw [lookD_cons, if_neg (h p List.mem_cons_self), ih fun q hq => h q (List.mem_cons_of_mem _ hq)]
theorem fold_new {α : Type} (gk : α → κ) (gd : α → D) : ∀ (l : List α) (acc : List (κ × D)), (l.Pairwise fun a b => gk a ≠ gk b) → (∀ a ∈ l, ∀ p ∈ acc, p.1 ≠ gk a) → l.foldl (fun acc a => putD acc (gk a) (gd a)) acc = acc ++ l.map fun a => (gk a, gd a)
  | [], acc, _, _ => by rw [List.map_nil, List.append_nil]; rfl
  | a :: l, acc, pw, h => by
    obtain ⟨p1, p2⟩ := List.pairwise_cons.mp pw
    rw [List.foldl_cons, putD_new (look_none (h a List.mem_cons_self)), fold_new gk gd l _ p2, List.map_cons, List.append_assoc]
    · rfl
    · intro b hb p hp
      rcases List.mem_append.mp hp with q | q
      · exact h b (List.mem_cons_of_mem _ hb) p q
      · rw [List.mem_singleton.mp q]
        exact p1 b hb
theorem look_map {α : Type} (gk : α → κ) (gd : α → D) {a : α} : ∀ {l : List α}, (l.Pairwise fun a b => gk a ≠ gk b) → a ∈ l → lookD (l.map fun a => (gk a, gd a)) (gk a) = some (gd a)
  | [], _, h => by cases h
  | b :: l, pw, h => by
    obtain ⟨p1, p2⟩ := List.pairwise_cons.mp pw
    rw [List.map_cons, lookD_cons]
    rcases List.mem_cons.mp h with e | e
    · subst e
      rw [if_pos rfl]
    · rw [if_neg (p1 a e), look_map gk gd p2 e]
end
theorem k2_dst {l : Ar} (h : l.Pairwise fun p q => ends2 p ≠ ends2 q) : l.Pairwise fun p q => k2 p ≠ k2 q := h.imp fun k e => k (k2_ends e)
theorem p_heads_in : PP fs_heads_in w_heads_in ["arrows", "one"] := by
  rintro ds Q ex ⟨l, rfl, hl, hd, q⟩
  show w_heads_in _ [some (.dat (arD l) false), none]
  subst_eqs
  refine ⟨size_ok (by simp; omega), ?_⟩
  refine dcT_map l (fun a => (prD a, false)) k2 (fun a => .int a.2) dep0 (fun ⟨t, h⟩ ha KT KF k => ?_) ?_ (List.map_map ..)
  · subst_eqs
    refine ⟨[t, h], rfl, by simp, fun m m1 m2 => ?_⟩
    have em := min_of m1 m2
    subst em
    subst_eqs
    refine ⟨[t, h], rfl, by simp, fun m m1 m2 => ?_⟩
    have em := max_of m1 m2
    subst em
    subst_eqs
    refine ⟨size_ok (by simp), ?_⟩
    subst_eqs
    rw [show atI [D.int t, D.int h] 1 = some (.int h) from at1 ..]
    subst_eqs
    exact k _ (by rfl)
  · rw [fold_new k2 (fun a => D.int a.2) l [] (k2_dst hd) (fun a _ p hp => by cases hp)]
    exact q
theorem p_check_goal : PP fs_check_goal w_check_goal ["goal", "arrows", "points", "lines", "index", "one"] := by
  rintro ds Q ex ⟨n, l, e, rfl, ok, q⟩
  show w_check_goal _ [some (.dat (arD (flp l e)) false), some (.dat (arD l) false), some (.dat (.int n) false), none, none, none]
  have fl := flp_len l e
  have ll := ok.len
  subst_eqs
  refine ⟨n, _, rfl, ok.flp e, ?_⟩
  subst_eqs
  refine ⟨l, rfl, ll, ok.dst, ?_⟩
  subst_eqs
  refine ⟨rfl, ?_⟩
  refine for_pre (flp l e).zipIdx _ (fun pre Γ => ∃ a b, Γ = [some (.dat (arD (flp l e)) false), some (.dat (arD l) false), some (.dat (.int n) false), some (.dat (.dt (headsD l)) true), a, b]) ⟨_, _, rfl⟩ ?_ ?_ (enum_map (flp l e) prD false)
  · rintro pre ⟨⟨t, h⟩, i⟩ r Γ N eq ⟨a, b, rfl⟩ hN
    have hm : (t, h) ∈ flp l e := by
      have z := congrArg (List.map (·.1)) eq
      have z : flp l e = pre.map (·.1) ++ (t, h) :: r.map (·.1) := by simpa using z
      rw [z]
      simp
    have hk : (lookD (headsD l) (k2 (t, h))).isSome = true := by
      obtain ⟨p, hp, ep⟩ := List.mem_map.mp hm
      have e2 : k2 (t, h) = k2 p := by
        rw [← ep]
        split
        · unfold k2
          rw [show min p.2 p.1 = min p.1 p.2 from by omega, show max p.2 p.1 = max p.1 p.2 from by omega]
        · rfl
      rw [e2, show lookD (headsD l) (k2 p) = _ from look_map k2 (fun a => D.int a.2) (k2_dst ok.dst) hp]
      rfl
    subst_eqs
    refine ⟨[t, h], rfl, by simp, fun m m1 m2 => ?_⟩
    have em := min_of m1 m2
    subst em
    subst_eqs
    refine ⟨[t, h], rfl, by simp, fun m m1 m2 => ?_⟩
    have em := max_of m1 m2
    subst em
    subst_eqs
    refine ⟨size_ok (by simp), ?_⟩
    subst_eqs
    refine bF (nT hk) ?_
    subst_eqs
    exact hN _ ⟨_, _, rfl⟩
  · rintro Γ ⟨a, b, rfl⟩
    subst_eqs
    refine bF (yF ?_) ?_
    · simp
      omega
    subst_eqs
    exact q
theorem p_check_two : PP fs_check_two w_check_two ["points", "arrows", "goal"] := by
  rintro ds Q ex ⟨n, l, e, rfl, ok, q⟩
  show w_check_two _ [some (.dat (.int n) false), some (.dat (arD l) false), some (.dat (arD (flp l e)) false)]
  subst_eqs
  refine ⟨n, l, rfl, ok, ?_⟩
  subst_eqs
  refine ⟨n, l, e, rfl, ok, ?_⟩
  subst_eqs
  exact q
end Q

/-! S, part 3: steps_in. -/
namespace Q
open PySem L2 Y
-- the head of a wp, unfolded, through tests that are told
local macro_rules | `(tactic| subst_eqs) => `(tactic| ((with_reducible conv => whnf); repeat ((with_reducible first | refine bT rfl ?_ | refine bF rfl ?_ | refine dT rfl ?_ | refine dF rfl ?_ | refine bF (nT rfl) ?_ | refine bT (nF rfl) ?_); (with_reducible conv => whnf))))
def kk (a b : Int) : List Key := [.inl a, .inl b]
theorem kk_inj {a b c d : Int} (h : kk a b = kk c d) : a = c ∧ b = d := by
  unfold kk at h
  injection h with h1 h2
  injection h1 with h1
  injection h2 with h2 _
  injection h2 with h2
  exact ⟨h1, h2⟩
theorem stepsD_app (l m : Ar) (e : Int → Nat) : stepsD (l ++ m) e = stepsD l e ++ stepsD m e := by
  unfold stepsD stepsL
  rw [List.flatMap_append, List.map_append]
theorem stepsD_key {l : Ar} {e : Int → Nat} {p : List Key × D} (h : p ∈ stepsD l e) : ∃ a ∈ l, (p.1 = kk a.1 a.2 ∧ p.2 = .int ((e a.2 : Int) - e a.1)) ∨ (p.1 = kk a.2 a.1 ∧ p.2 = .int ((e a.1 : Int) - e a.2)) := by
  obtain ⟨q, hq, rfl⟩ := List.mem_map.mp h
  obtain ⟨a, ha, hq⟩ := List.mem_flatMap.mp hq
  refine ⟨a, ha, ?_⟩
  rcases List.mem_cons.mp hq with z | z
  · subst z; exact .inl ⟨rfl, rfl⟩
  · rw [List.mem_singleton.mp z]; exact .inr ⟨rfl, rfl⟩
theorem stepsD_len (l : Ar) (e : Int → Nat) : (stepsD l e).length = 2 * l.length := by
  unfold stepsD stepsL
  rw [List.length_map]
  induction l with
  | nil => rfl
  | cons a l ih => rw [List.flatMap_cons, List.length_append, ih]; show 2 + _ = 2 * (_ + 1); omega
theorem ends_of_kk {a : Int × Int} {t h : Int} (e : kk t h = kk a.1 a.2 ∨ kk t h = kk a.2 a.1) : ends2 a = ends2 (t, h) := by
  rcases e with e | e
  · obtain ⟨e1, e2⟩ := kk_inj e
    rw [e1, e2]
  · obtain ⟨e1, e2⟩ := kk_inj e
    rw [e1, e2]
    exact (ends2_swap ..).symm
theorem heads_at {n : Int} {l : Ar} {e : Int → Nat} (ok : Ok n l) {t h : Int} (hm : (t, h) ∈ l) : lookD (headsD (flp l e)) [Sum.inl (if h < t then h else t), Sum.inl (if h > t then h else t)] = some (.int (if e h = e t + 1 then t else h)) := by
  have ek : ∀ a : Int × Int, k2 (if e a.2 = e a.1 + 1 then (a.2, a.1) else a) = k2 a := fun a => by
    split
    · unfold k2
      rw [show min a.2 a.1 = min a.1 a.2 from by omega, show max a.2 a.1 = max a.1 a.2 from by omega]
    · rfl
  have e1 : headsD (flp l e) = l.map fun a => (k2 a, D.int (if e a.2 = e a.1 + 1 then (a.2, a.1) else a).2) := by
    unfold headsD flp
    rw [List.map_map]
    refine List.map_congr_left fun a _ => ?_
    show (k2 (if e a.2 = e a.1 + 1 then (a.2, a.1) else a), _) = _
    rw [ek]
  have e2 : ([Sum.inl (if h < t then h else t), Sum.inl (if h > t then h else t)] : List Key) = k2 (t, h) := by
    unfold k2
    rw [show (if h < t then h else t) = min t h by split <;> omega, show (if h > t then h else t) = max t h by split <;> omega]
  rw [e1, e2, look_map k2 _ (k2_dst ok.dst) hm]
  show some (D.int (if e h = e t + 1 then (h, t) else (t, h)).2) = _
  split <;> rfl
theorem p_steps_in : PP fs_steps_in w_steps_in ["arrows", "goal", "heads", "told", "tail", "head", "more"] := by
  rintro ds Q ex ⟨n, l, e, rfl, ok, hc, q⟩
  show w_steps_in _ [some (.dat (arD l) false), some (.dat (arD (flp l e)) false), none, none, none, none, none]
  have fl := flp_len l e
  have ll := ok.len
  subst_eqs
  refine ⟨_, rfl, by omega, (ok.flp e).dst, ?_⟩
  subst_eqs
  refine ⟨rfl, ?_⟩
  refine for_pre l (fun a => (prD a, false)) (fun pre Γ => ∃ a4 a5 a6, Γ = [some (.dat (arD l) false), some (.dat (arD (flp l e)) false), some (.dat (.dt (headsD (flp l e))) true), some (.own (.dt (stepsD pre e)) true), a4, a5, a6]) ⟨_, _, _, rfl⟩ ?_ ?_ (List.map_map ..)
  · rintro pre ⟨t, h⟩ r Γ N eq ⟨a4, a5, a6, rfl⟩ hN
    have hm : (t, h) ∈ l := by rw [eq]; simp
    have rg := ok.rng _ hm
    have kc := hc _ hm
    have len : pre.length ≤ 29 := by
      have := congrArg List.length eq
      rw [List.length_append, List.length_cons] at this
      omega
    have new : ∀ p ∈ stepsD pre e, p.1 ≠ kk t h ∧ p.1 ≠ kk h t := fun p hp => by
      obtain ⟨a, ha, w⟩ := stepsD_key hp
      have dd := ok.dst
      rw [eq, List.pairwise_append] at dd
      have ne := dd.2.2 a ha (t, h) List.mem_cons_self
      constructor
      · intro z
        refine ne (ends_of_kk ?_)
        rcases w with w | w
        · exact .inl (z.symm.trans w.1)
        · exact .inr (z.symm.trans w.1)
      · intro z
        refine ne ((ends_of_kk (t := h) (h := t) ?_).trans (ends2_swap ..))
        rcases w with w | w
        · exact .inl (z.symm.trans w.1)
        · exact .inr (z.symm.trans w.1)
    have sl := stepsD_len pre e
    subst_eqs
    refine ⟨size_ok (by simp), ?_⟩
    subst_eqs
    rw [show keysOf (List.map (fun x : D × Bool => x.1) [(D.int (if (t, h).snd < (t, h).fst then (t, h).snd else (t, h).fst), true), (D.int (if (t, h).snd > (t, h).fst then (t, h).snd else (t, h).fst), true)]) = some [Sum.inl (if h < t then h else t), Sum.inl (if h > t then h else t)] from rfl]
    subst_eqs
    rw [heads_at ok hm]
    subst_eqs
    have em : (if decide ((if e h = e t + 1 then t else h) = (t, h).fst) = true then (1 : Int) else 0) = (e h : Int) - e t := by
      have kc : e h = e t ∨ e h = e t + 1 := kc
      have ne : t ≠ h := rg.2.2
      by_cases z : e h = e t + 1
      · rw [if_pos z, if_pos (decide_eq_true rfl)]
        omega
      · rw [if_neg z, if_neg (by rw [decide_eq_true_eq]; exact fun y => ne y.symm)]
        omega
    rw [em]
    refine ⟨size_ok (by simp), ?_⟩
    subst_eqs
    refine ⟨⟨_, rfl⟩, ?_⟩
    subst_eqs
    refine ⟨size_ok (by simp), ?_⟩
    subst_eqs
    refine ⟨size_lt (by omega), ?_⟩
    subst_eqs
    refine ⟨size_ok (by simp), ?_⟩
    subst_eqs
    have p1 : putD (stepsD pre e) (kk t h) (.int ((e h : Int) - e t)) = stepsD pre e ++ [(kk t h, .int ((e h : Int) - e t))] := putD_new (look_none fun p hp => (new p hp).1)
    have p2 : putD (putD (stepsD pre e) (kk t h) (.int ((e h : Int) - e t))) (kk h t) (.int (0 - ((e h : Int) - e t))) = stepsD (pre ++ [(t, h)]) e := by
      rw [p1, putD_new (look_none fun p hp => ?_), stepsD_app, List.append_assoc, show 0 - ((e h : Int) - e t) = (e t : Int) - e h by omega]
      · rfl
      · rcases List.mem_append.mp hp with z | z
        · exact (new p z).2
        · rw [List.mem_singleton.mp z]
          exact fun y => rg.2.2 (kk_inj y).1
    refine ⟨size_lt ?_, ?_⟩
    · show (putD (stepsD pre e) (kk t h) (.int ((e h : Int) - e t))).length ≤ _
      rw [p1, List.length_append, sl]
      show _ + 1 ≤ _
      omega
    refine hN _ ⟨some (.dat (.int t) false), some (.dat (.int h) false), some (.dat (.int ((e h : Int) - e t)) true), ?_⟩
    rw [← p2]
    rfl
  · rintro Γ ⟨a4, a5, a6, rfl⟩
    subst_eqs
    exact q
end Q

/-! S, part 4: differences_in. -/
namespace Q
open PySem L2 Y
-- the head of a wp, unfolded, through tests that are told
local macro_rules | `(tactic| subst_eqs) => `(tactic| ((with_reducible conv => whnf); repeat ((with_reducible first | refine bT rfl ?_ | refine bF rfl ?_ | refine dT rfl ?_ | refine dF rfl ?_ | refine bF (nT rfl) ?_ | refine bT (nF rfl) ?_); (with_reducible conv => whnf))))
def toldD (e : Int → Nat) (ks : List Int) : List (Key × D) := ks.map fun k => (.inl k, .int ((e k : Int) - e 1))
theorem toldD_in (e : Int → Nat) (ks : List Int) (k : Int) : lookD (toldD e ks) (.inl k) = if k ∈ ks then some (.int ((e k : Int) - e 1)) else none := by
  induction ks with
  | nil => rfl
  | cons a ks ih =>
    unfold toldD at ih ⊢
    rw [List.map_cons, lookD_cons]
    by_cases h : a = k
    · subst h
      rw [if_pos rfl, if_pos List.mem_cons_self]
    · have h2 : ¬ (Sum.inl a : Key) = .inl k := fun z => h (by injection z)
      rw [if_neg h2, ih]
      by_cases z : k ∈ ks
      · rw [if_pos z, if_pos (List.mem_cons_of_mem _ z)]
      · rw [if_neg z, if_neg]
        intro y
        rcases List.mem_cons.mp y with y | y
        · exact h y.symm
        · exact z y
theorem toldD_put {e : Int → Nat} {ks : List Int} {o : Int} (h : o ∉ ks) : putD (toldD e ks) (.inl o) (.int ((e o : Int) - e 1)) = toldD e (ks ++ [o]) := by
  rw [putD_new (by rw [toldD_in, if_neg h])]
  unfold toldD
  rw [List.map_append]
  rfl
def prs (l : Ar) : List (Int × Int) := l.flatMap fun a => [(a.1, a.2), (a.2, a.1)]
theorem prs_mem {l : Ar} {p : Int × Int} : p ∈ prs l ↔ p ∈ l ∨ (p.2, p.1) ∈ l := by
  unfold prs
  rw [List.mem_flatMap]
  constructor
  · rintro ⟨a, ha, h⟩
    rcases List.mem_cons.mp h with z | z
    · left; rw [z]; exact ha
    · right; rw [List.mem_singleton.mp z]; exact ha
  · rintro (h | h)
    · exact ⟨p, h, List.mem_cons_self⟩
    · exact ⟨_, h, by simp⟩
theorem prs_steps (l : Ar) (e : Int → Nat) : (stepsD l e).map (·.1) = (prs l).map fun k => [Sum.inl k.1, Sum.inl k.2] := by
  unfold stepsD stepsL prs
  rw [List.map_map]
  induction l with
  | nil => rfl
  | cons a l ih => rw [List.flatMap_cons, List.flatMap_cons, List.map_append, List.map_append, ih]; rfl
theorem look_val {κ : Type} [DecidableEq κ] {k : κ} {d : D} : ∀ {l : List (κ × D)}, (∀ p ∈ l, p.1 = k → p.2 = d) → (∃ p ∈ l, p.1 = k) → lookD l k = some d
  | [], _, ⟨p, h, _⟩ => by cases h
  | q :: l, h, ⟨p, hp, ep⟩ => by
    rw [lookD_cons]
    by_cases z : q.1 = k
    · rw [if_pos z, h q List.mem_cons_self z]
    · rw [if_neg z]
      refine look_val (fun r hr => h r (List.mem_cons_of_mem _ hr)) ⟨p, ?_, ep⟩
      rcases List.mem_cons.mp hp with y | y
      · rw [y] at ep; exact absurd ep z
      · exact y
theorem stepsD_at {l : Ar} {e : Int → Nat} {a b : Int} (h : (a, b) ∈ prs l) : lookD (stepsD l e) [Sum.inl a, Sum.inl b] = some (.int ((e b : Int) - e a)) := by
  refine look_val (fun p hp ep => ?_) ?_
  · obtain ⟨q, hq, w⟩ := stepsD_key hp
    rcases w with ⟨w1, w2⟩ | ⟨w1, w2⟩
    · obtain ⟨y1, y2⟩ := kk_inj (ep.symm.trans w1)
      rw [w2, y1, y2]
    · obtain ⟨y1, y2⟩ := kk_inj (ep.symm.trans w1)
      rw [w2, y1, y2]
  · have : ([Sum.inl a, Sum.inl b] : List Key) ∈ (stepsD l e).map (·.1) := by
      rw [prs_steps]
      exact List.mem_map.mpr ⟨_, h, rfl⟩
    obtain ⟨p, hp, ep⟩ := List.mem_map.mp this
    exact ⟨p, hp, ep⟩
/-- one direction of a line is looked at -/
def exp2 (w : Int) (s : List Int × List Int) (p : Int × Int) : List Int × List Int := if p.1 = w then met s.1 s.2 p.2 else s
theorem exp2_inv {n : Int} {l : Ar} {ks ws : List Int} {w : Int} {p : Int × Int} (h : Inv n l ks ws) (hw : w ∈ ks) (hp : p ∈ prs l) (hr : ∀ p ∈ l, inR n p) : Inv n l (exp2 w (ks, ws) p).1 (exp2 w (ks, ws) p).2 := by
  unfold exp2
  split
  · rename_i e
    rcases prs_mem.mp hp with q | q
    · exact h.met ⟨(hr _ q).2.1, .step (h.rg w hw).2 (.inl (by rw [← e]; exact q))⟩
    · exact h.met ⟨(hr _ q).1, .step (h.rg w hw).2 (.inr (by rw [← e]; exact q))⟩
  · exact h
theorem exp2_sub {ks ws : List Int} {w k : Int} {p : Int × Int} (h : k ∈ ks) : k ∈ (exp2 w (ks, ws) p).1 := by
  unfold exp2
  split
  · exact met_sub h
  · exact h
theorem exp2_new {ks ws : List Int} {w k : Int} {p : Int × Int} (h : k ∈ (exp2 w (ks, ws) p).1) (hw : k ∉ (exp2 w (ks, ws) p).2) : k ∈ ks ∧ k ∉ ws := by
  unfold exp2 at h hw
  split at h
  · rename_i e
    rw [if_pos e] at hw
    exact met_new h hw
  · rename_i e
    rw [if_neg e] at hw
    exact ⟨h, hw⟩
theorem exp2_todo {n : Int} {l : Ar} {ks ws : List Int} {w : Int} {p : Int × Int} (h : Inv n l (exp2 w (ks, ws) p).1 (exp2 w (ks, ws) p).2) : todo n (exp2 w (ks, ws) p).1 (exp2 w (ks, ws) p).2 ≤ todo n ks ws := by
  unfold exp2 at h ⊢
  split
  · rename_i e
    rw [if_pos e] at h
    exact met_todo h
  · exact Nat.le_refl _
theorem keysOf2 (a b : Int) (f g : Bool) : keysOf (List.map (fun x : D × Bool => x.1) [(D.int a, f), (D.int b, g)]) = some [Sum.inl a, Sum.inl b] := rfl
abbrev gS (n : Int) (l : Ar) (e : Int → Nat) (ks ws : List Int) (f g : Bool) (a b c : Option Sl) : En := [some (.dat (.int n) false), some (.dat (arD l) false), some (.dat (arD (flp l e)) false), some (.dat (.dt (stepsD l e)) true), some (.own (.dk (toldD e ks)) f), some (.own (inD ws) g), a, b, c, none, none]
abbrev gL (n : Int) (l : Ar) (e : Int → Nat) (ks ws : List Int) (f g : Bool) (a b c : Option Sl) : En := [some (.dat (.int n) false), some (.dat (arD l) false), some (.dat (arD (flp l e)) false), some (.old (.dt (stepsD l e))), some (.own (.dk (toldD e ks)) f), some (.own (inD ws) g), a, b, c, none, none]
abbrev wStep : WS := wIfS (wAnd (wTst (wOp kEq (wVar 7) (wVar 6))) (wTst (wNotIn (wVar 8) (wLook 4)))) (wSeq (wPut 4 (wVar 8) (wOp kAdd (wIx kIx (wLook 4) (wVar 7)) (wIx kIx (wLook 3) (wTup (wCons (wVar 7) (wCons (wVar 8) (wNil))))))) (wDrop (wApp 5 (wVar 8)))) (wNext)
theorem dif_step {n : Int} {l : Ar} {e : Int → Nat} {ks ws : List Int} {f g f6 f7 f8 : Bool} {w t h : Int} {P : DE} (hk : ks.length ≤ 100) (hw : ws.length ≤ 1000) (hwk : w ∈ ks) (hp : (t, h) ∈ prs l)
    (k : ∀ f' g', P.nx (gL n l e (exp2 w (ks, ws) (t, h)).1 (exp2 w (ks, ws) (t, h)).2 f' g' (some (.dat (.int w) f6)) (some (.dat (.int t) f7)) (some (.dat (.int h) f8)))) :
    wStep P (gL n l e ks ws f g (some (.dat (.int w) f6)) (some (.dat (.int t) f7)) (some (.dat (.int h) f8))) := by
  unfold exp2 at k
  subst_eqs
  by_cases e1 : t = w
  · refine bT (yT e1) ?_
    rw [if_pos (show (t, h).1 = w from e1)] at k
    unfold met at k
    subst e1
    subst_eqs
    rw [toldD_in]
    by_cases z : h ∈ ks
    · rw [if_pos z]
      rw [if_pos (show (t, h).2 ∈ ks from z)] at k
      refine bF (nT rfl) ?_
      exact k _ _
    · rw [if_neg z]
      rw [if_neg (show ¬ (t, h).2 ∈ ks from z)] at k
      refine bT (nF rfl) ?_
      subst_eqs
      rw [toldD_in, if_pos hwk]
      subst_eqs
      refine ⟨size_ok (by simp), ?_⟩
      subst_eqs
      rw [keysOf2]
      subst_eqs
      rw [stepsD_at hp]
      subst_eqs
      refine ⟨⟨_, rfl⟩, ?_⟩
      subst_eqs
      refine ⟨size_lt (by unfold toldD; rw [List.length_map]; omega), ?_⟩
      subst_eqs
      rw [show (e t : Int) - e 1 + ((e h : Int) - e t) = (e h : Int) - e 1 by omega, toldD_put z]
      refine ⟨trivial, ?_⟩
      subst_eqs
      refine ⟨size_lt (by rw [List.length_map]; omega), ?_⟩
      have y : P.nx (gL n l e (ks ++ [h]) (ws ++ [h]) (f && true) (g && (f8 || true)) (some (.dat (.int t) f6)) (some (.dat (.int t) f7)) (some (.dat (.int h) f8))) := k _ _
      unfold gL at y
      rw [in_snoc] at y
      exact y
  · refine bF (yF e1) ?_
    rw [if_neg (show ¬ (t, h).1 = w from e1)] at k
    exact k _ _
abbrev os (b : Option (D × Bool)) : Option Sl := b.map fun q => .dat q.1 q.2
theorem lk_os (b : Option (D × Bool)) : lkS (os b) = os (b.map fun q => (q.1, false)) := by cases b <;> rfl
theorem lb_os (b : Option (D × Bool)) : lbS (os b) = os b := by cases b <;> rfl
theorem lk_gS {n : Int} {l : Ar} {e : Int → Nat} {ks ws : List Int} {f g f6 : Bool} {w : Int} {b c : Option Sl} : lkIn 3 (stepsD l e) (gS n l e ks ws f g (some (.dat (.int w) f6)) b c) = gL n l e ks ws false false (some (.dat (.int w) false)) (lkS b) (lkS c) := rfl
theorem lb_gL {n : Int} {l : Ar} {e : Int → Nat} {ks ws : List Int} {f g f6 : Bool} {w : Int} {b c : Option Sl} : lkOut (gL n l e ks ws f g (some (.dat (.int w) f6)) b c) = gS n l e ks ws f g (some (.dat (.int w) f6)) (lbS b) (lbS c) := rfl
@[reducible] def w_difE : WS := wRet (wLc (wItR2 (wC (.int 1)) (wOp kAdd (wVar 0) (wC (.int 1)))) (wName 9) (wYes) (wIx kIx (wLook 4) (wVar 9)) [9])
theorem p_differences_in : PP fs_differences_in w_differences_in ["points", "arrows", "goal", "steps", "told", "waiting", "here", "one", "two", "point", "more"] := by
  rintro ds Q ex ⟨n, l, e, rfl, ok, hc, q⟩
  show w_differences_in _ [some (.dat (.int n) false), some (.dat (arD l) false), some (.dat (arD (flp l e)) false), none, none, none, none, none, none, none, none]
  have h1 := ok.n1
  have h2 := ok.n12
  have ll := ok.len
  have hr := ok.rng
  subst_eqs
  refine ⟨n, l, e, rfl, ok, hc, ?_⟩
  subst_eqs
  refine ⟨size_ok (by simp), ?_⟩
  subst_eqs
  refine ⟨fun m Γ => ∃ ks ws f g a b c, Γ = gS n l e ks ws f g a (os b) (os c) ∧ Inv n l ks ws ∧ (∀ k ∈ ks, k ∉ ws → ∀ c, nb l k c → c ∈ ks) ∧ m = todo n ks ws ∧ todo n ks ws ≤ 100, ⟨_, [1], [1], true, true, none, none, none, ?_, ?_, ?_, rfl, ?_⟩, ?_⟩
  · have z : toldD e [1] = [(Sum.inl 1, D.int 0)] := by
      show [((Sum.inl 1 : Key), D.int ((e 1 : Int) - e 1))] = _
      rw [Int.sub_self]
    unfold gS
    rw [z]
    rfl
  · exact ⟨by simp, fun k hk => by rw [List.mem_singleton.mp hk]; exact ⟨⟨by omega, h1⟩, .refl 1⟩, by simp, fun w hw => hw⟩
  · intro k hk hn
    exact absurd hk hn
  · unfold todo
    simp
    omega
  rintro m Γ ⟨ks, ws, f, g, a, b, c, rfl, inv, cl, em, wl⟩
  subst_eqs
  refine ⟨size_ok (by simp), ?_⟩
  subst_eqs
  refine ⟨⟨okD_in ws, okD_in []⟩, ?_⟩
  rw [show (pd (D.lst (ws.map D.int))).eqv (pd (D.lst (List.map (fun x : D × Bool => x.1) []))) = decide (ws = []) from eqv_nil ws]
  by_cases hw : ws = []
  · refine bF (nT (decide_eq_true hw)) ?_
    have all : ∀ k, 1 ≤ k → k ≤ n → k ∈ ks := fun k k1 k2 => by
      have hk := ok.con k k1 k2
      clear k1 k2
      induction hk with
      | refl => exact inv.one
      | step _ hs ih => exact cl _ ih (by rw [hw]; simp) _ hs
    subst_eqs
    refine ⟨stepsD l e, stepsL l e, rfl, rfl, ?_, ?_⟩
    · have := stepsD_len l e
      unfold stepsD at this
      rw [List.length_map] at this
      exact size_ok (by omega)
    refine lc_mapS (stepsL l e) it3 (fun _ => .bl false) dep0 (fun ⟨x, y, d⟩ hx KT KF k => ?_) ?_ rfl
    · have hp : (x, y) ∈ prs l ∧ d = (e y : Int) - e x := by
        obtain ⟨p, hp, w⟩ := List.mem_flatMap.mp hx
        rcases List.mem_cons.mp w with w | w
        · cases w
          exact ⟨prs_mem.mpr (.inl hp), rfl⟩
        · cases List.mem_singleton.mp w
          exact ⟨prs_mem.mpr (.inr hp), rfl⟩
      obtain ⟨hp, ed⟩ := hp
      subst ed
      have rg : (1 ≤ x ∧ x ≤ n) ∧ (1 ≤ y ∧ y ≤ n) := by
        rcases prs_mem.mp hp with z | z
        · exact ⟨(hr _ z).1, (hr _ z).2.1⟩
        · exact ⟨(hr _ z).2.1, (hr _ z).1⟩
      subst_eqs
      rw [toldD_in, if_pos (all y rg.2.1 rg.2.2)]
      subst_eqs
      rw [toldD_in, if_pos (all x rg.1.1 rg.1.2)]
      subst_eqs
      rw [show (D.bl !decide ((e y : Int) - e 1 = (e x : Int) - e 1 + ((e y : Int) - e x))) = .bl false by rw [decide_eq_true (by omega)]; rfl]
      cases b <;> cases c <;> exact k _ (by rfl)
    · refine ⟨(stepsL l e).map fun _ => false, by rw [List.map_map]; rfl, ?_⟩
      refine bF ?_ ?_
      · rw [List.any_map]
        exact List.any_eq_false.mpr fun _ _ => Bool.false_ne_true
      · subst_eqs
        refine ⟨⟨by decide, by decide, by omega, by omega⟩, ?_, ?_⟩
        · refine size_ok ?_
          rw [rng_pts, List.length_map, pts_len]
          omega
        · refine lc_mapS (pts n) (fun k => (.int k, true)) (fun k => .int ((e k : Int) - e 1)) dep0 (fun k hk KT KF kk => ?_) ?_ (rng_pts n)
          · have r := pts_mem.mp hk
            subst_eqs
            rw [toldD_in, if_pos (all k r.1 r.2)]
            subst_eqs
            exact kk _ (by rfl)
          · rw [show inD (difD n e) = .lst ((pts n).map fun k => .int ((e k : Int) - e 1)) by unfold difD inD; rw [List.map_map]; rfl] at q
            exact q
  · refine bT (nF (decide_eq_false hw)) ?_
    obtain ⟨ws', w, ew⟩ : ∃ ws' w, ws = ws' ++ [w] := ⟨ws.dropLast, ws.getLast hw, (List.dropLast_concat_getLast hw).symm⟩
    subst ew
    have hwk : w ∈ ks := inv.wk w (by simp)
    subst_eqs
    rw [show (List.map D.int (ws' ++ [w])).getLast? = some (D.int w) from by rw [List.map_append]; exact List.getLast?_concat]
    subst_eqs
    rw [show (List.map D.int (ws' ++ [w])).dropLast = List.map D.int ws' from by rw [List.map_append]; exact List.dropLast_concat]
    subst_eqs
    refine ⟨stepsD l e, prs l, rfl, prs_steps l e, ?_⟩
    have lk := inv.len
    have inv0 : Inv n l ks ws' := ⟨inv.nd, inv.rg, inv.one, fun x hx => inv.wk x (List.mem_append_left _ hx)⟩
    refine for_pre (prs l) (fun k => (.tup [.int k.1, .int k.2], true)) (fun pre Γ => ∃ ks1 ws1 f g b c, Γ = gL n l e ks1 ws1 f g (some (.dat (.int w) false)) (os b) (os c) ∧ Inv n l ks1 ws1 ∧ w ∈ ks1 ∧ (∀ k ∈ ks1, k ∉ ws1 → k ≠ w → ∀ c, nb l k c → c ∈ ks1) ∧ (∀ p ∈ pre, p.1 = w → p.2 ∈ ks1) ∧ todo n ks1 ws1 ≤ todo n ks ws')
      ⟨ks, ws', false, false, b.map fun q => (q.1, false), c.map fun q => (q.1, false), (by rw [← lk_os, ← lk_os]), inv0, hwk, fun k hk hn hne c hc => cl k hk (fun z => ?_) c hc, fun p hp => (by cases hp), Nat.le_refl _⟩ ?_ ?_ rfl
    · rcases List.mem_append.mp z with z | z
      · exact hn z
      · exact hne (List.mem_singleton.mp z)
    · rintro pre ⟨t, h⟩ r Γ N eq ⟨ks1, ws1, f, g, b, c, rfl, i1, w1, c1, p1, t1⟩ hN
      have hm : (t, h) ∈ prs l := by rw [eq]; simp
      have inv2 := exp2_inv i1 w1 hm hr
      have l1 := i1.len
      have wb : ws1.length ≤ 1000 := by
        have : todo n ks ws' ≤ todo n ks (ws' ++ [w]) := by unfold todo; simp
        unfold todo at *
        omega
      refine dif_step (P := { nx := N, ct := N, bk := _, rt := _, xe := _ }) (by omega) wb w1 hm fun f' g' => hN _ ⟨_, _, f', g', some (_, _), some (_, _), rfl, inv2, exp2_sub w1, fun k hk hn hne c hc => ?_, fun p hp ep => ?_, Nat.le_trans (exp2_todo inv2) t1⟩
      · obtain ⟨a1, a2⟩ := exp2_new hk hn
        exact exp2_sub (c1 k a1 a2 hne c hc)
      · rcases List.mem_append.mp hp with hp | hp
        · exact exp2_sub (p1 p hp ep)
        · rw [List.mem_singleton.mp hp] at ep ⊢
          unfold exp2
          rw [if_pos ep]
          exact met_mem
    · rintro Γ ⟨ks1, ws1, f, g, b, c, rfl, i1, w1, c1, p1, t1⟩
      refine ⟨todo n ks1 ws1, ?_, ks1, ws1, f, g, _, b, c, (lb_gL (b := os b) (c := os c)).trans (by rw [lb_os, lb_os]), i1, fun k hk hn c hc => ?_, rfl, ?_⟩
      · rw [em]
        unfold todo at t1 ⊢
        simp
        omega
      · by_cases hkw : k = w
        · subst hkw
          exact p1 (k, c) (prs_mem.mpr hc) rfl
        · exact c1 k hk hn hkw c hc
      · have : todo n ks ws' ≤ todo n ks (ws' ++ [w]) := by unfold todo; simp
        omega
end Q

/-! S, part 5: table_in, least_table, run_to. -/
namespace Q
open PySem L2 Y
-- the head of a wp, unfolded, through tests that are told
local macro_rules | `(tactic| subst_eqs) => `(tactic| ((with_reducible conv => whnf); repeat ((with_reducible first | refine bT rfl ?_ | refine bF rfl ?_ | refine dT rfl ?_ | refine dF rfl ?_ | refine bF (nT rfl) ?_ | refine bT (nF rfl) ?_); (with_reducible conv => whnf))))
theorem tab_D (n : Int) (c : Int → Nat) : inD (tab n c) = .lst ((pts n).map fun k => .int (c k)) := by
  unfold tab
  show D.lst (((pts n).map fun k => (c k : Int)).map D.int) = _
  rw [List.map_map]
  rfl
theorem tab_len (n : Int) (c : Int → Nat) : (tab n c).length = n.toNat := by
  unfold tab
  rw [List.length_map, pts_len]
theorem dif_len (n : Int) (e : Int → Nat) : (difD n e).length = n.toNat := by
  unfold difD
  rw [List.length_map, pts_len]
theorem p_table_in : PP fs_table_in w_table_in ["points", "arrows", "goal", "told", "still", "less", "table", "number", "point"] := by
  rintro ds Q ex ⟨n, l, e, rfl, ok, hb, hc, q⟩
  show w_table_in _ [some (.dat (.int n) false), some (.dat (arD l) false), some (.dat (arD (flp l e)) false), none, none, none, none, none, none]
  have h1 := ok.n1
  have h2 := ok.n12
  have ll := ok.len
  have dl := dif_len n e
  subst_eqs
  refine ⟨n, l, e, rfl, ok, hc, ?_⟩
  subst_eqs
  refine ⟨n, l, rfl, by omega, by omega, by omega, ?_⟩
  rw [hb]
  subst_eqs
  refine ⟨size_ok (by simp), ?_⟩
  subst_eqs
  refine ⟨⟨okD_in [], okD_in []⟩, ?_⟩
  refine bF (nT (eqv_in [])) ?_
  subst_eqs
  refine ⟨difD n e, rfl, by omega, fun m m1 m2 => ?_⟩
  obtain ⟨x, hx, ex_⟩ := List.mem_map.mp m1
  have xr := pts_mem.mp hx
  have mn : isMin n e (e x) := ⟨⟨x, xr.1, xr.2, rfl⟩, fun k k1 k2 => by
    have := m2 _ (List.mem_map.mpr ⟨k, pts_mem.mpr ⟨k1, k2⟩, rfl⟩)
    omega⟩
  have q := q _ mn
  subst ex_
  subst_eqs
  refine ⟨size_ok (by simp; omega), ?_⟩
  refine lc_mapS (pts n) (fun k => (.int ((e k : Int) - e 1), true)) (fun k => .int ((e k - e x : Nat) : Int)) dep0 (fun k hk KT KF kk => ?_) ?_ (by show List.map _ ((difD n e).map D.int) = _; unfold difD; rw [List.map_map, List.map_map]; rfl)
  · have r := pts_mem.mp hk
    have := mn.2 k r.1 r.2
    subst_eqs
    have z : (fun i j => D.int (i - j)) ((e k : Int) - e 1) ((e x : Int) - e 1) = .int ((e k - e x : Nat) : Int) := by
      show D.int ((e k : Int) - e 1 - ((e x : Int) - e 1)) = _
      rw [show (e k : Int) - e 1 - ((e x : Int) - e 1) = ((e k - e x : Nat) : Int) by omega]
    rw [z]
    exact kk _ (by rfl)
  rw [← tab_D]
  subst_eqs
  refine ⟨tab n fun k => e k - e x, rfl, by rw [tab_len]; omega, fun m m1 m2 => ?_⟩
  obtain ⟨y, hy, ey⟩ := List.mem_map.mp m1
  subst_eqs
  refine bF (yF (by omega)) ?_
  subst_eqs
  refine ⟨size_ok (by simp), ?_⟩
  refine lc_mapS ([] : List Int) (fun k => (.int k, true)) (fun k => .int k) dep0 (fun k hk KT KF kk => by cases hk) ?_ rfl
  subst_eqs
  refine ⟨[], rfl, ?_⟩
  subst_eqs
  exact q
theorem p_least_table : PP fs_least_table w_least_table ["points", "arrows", "goal"] := by
  rintro ds Q ex ⟨n, l, e, rfl, ok, hb, hc, q⟩
  show w_least_table _ [some (.dat (.int n) false), some (.dat (arD l) false), some (.dat (arD (flp l e)) false)]
  subst_eqs
  refine ⟨n, l, e, rfl, ok, ?_⟩
  subst_eqs
  refine ⟨n, l, e, rfl, ok, hb, hc, fun m hm => ?_⟩
  exact q m hm
theorem p_run_to : PP fs_run_to w_run_to ["points", "arrows", "goal", "table"] := by
  rintro ds Q ex ⟨n, l, e, rfl, ok, hb, hc, he, q⟩
  show w_run_to _ [some (.dat (.int n) false), some (.dat (arD l) false), some (.dat (arD (flp l e)) false), none]
  subst_eqs
  refine ⟨n, l, e, rfl, ok, ?_⟩
  subst_eqs
  refine ⟨n, l, e, rfl, ok, hb, hc, fun m hm => ?_⟩
  have sh : ∀ a ∈ l, (e a.2 : Int) - e a.1 = ((e a.2 - m : Nat) : Int) - ((e a.1 - m : Nat) : Int) := fun a ha => by
    have r := ok.rng a ha
    have := hm.2 _ r.1.1 r.1.2
    have := hm.2 _ r.2.1.1 r.2.1.2
    omega
  subst_eqs
  refine ⟨n, l, fun k => e k - m, rfl, ok, hb, cons_shift sh hc, fun k k1 k2 => by have := he k k1 k2; show e k - m ≤ 60; omega, fun ts fr lg pl => ?_⟩
  subst_eqs
  refine q ts fr lg ?_
  rw [pl]
  exact (flp_shift sh).symm
end Q

/-! S, part 6: run_in. -/
namespace Q
open PySem L2 Y
-- the head of a wp, unfolded, through tests that are told
local macro_rules | `(tactic| subst_eqs) => `(tactic| ((with_reducible conv => whnf); repeat ((with_reducible first | refine bT rfl ?_ | refine bF rfl ?_ | refine dT rfl ?_ | refine dF rfl ?_ | refine bF (nT rfl) ?_ | refine bT (nF rfl) ?_); (with_reducible conv => whnf))))
theorem tab_at {n : Int} {c : Int → Nat} {t : Int} (h1 : 1 ≤ t) (h2 : t ≤ n) : atI ((tab n c).map D.int) (t - 1) = some (.int (c t)) := by
  have pl := pts_len n
  obtain ⟨y, e, g⟩ := atI_map (fun k => D.int (c k)) (L := pts n) (i := t - 1) (by omega) (by omega)
  have et : (tab n c).map D.int = (pts n).map fun k => .int (c k) := by
    unfold tab
    rw [List.map_map]
    rfl
  rw [et, e]
  rw [pts_at (by omega)] at g
  cases g
  rw [show 1 + ((t - 1).toNat : Int) = t by omega]
theorem tab_get {n : Int} {c : Int → Nat} {t : Int} (h1 : 1 ≤ t) (h2 : t ≤ n) : ((tab n c).map D.int)[(t - 1).toNat]? = some (.int (c t)) := by
  unfold tab
  rw [List.getElem?_map, List.getElem?_map, pts_at (by omega), show 1 + ((t - 1).toNat : Int) = t by omega]
  rfl
theorem tab_upd {n : Int} {c g : Int → Nat} {t : Int} (h1 : 1 ≤ t) (h2 : t ≤ n) (hg : ∀ k, k ≠ t → g k = c k) : (tab n c).set (t - 1).toNat (g t : Int) = tab n g := by
  refine List.ext_getElem? fun i => ?_
  have pl := tab_len n c
  rw [List.getElem?_set, pl]
  unfold tab
  rw [List.getElem?_map, List.getElem?_map]
  by_cases hi : i < n.toNat
  · rw [pts_at hi]
    by_cases e : (t - 1).toNat = i
    · rw [if_pos e, if_pos (by omega)]
      show _ = some ((g (1 + (i : Int)) : Nat) : Int)
      rw [show 1 + (i : Int) = t by omega]
    · rw [if_neg e]
      show _ = some ((g (1 + (i : Int)) : Nat) : Int)
      rw [hg _ (by omega)]
      rfl
  · rw [List.getElem?_eq_none (by rw [pts_len]; omega)]
    by_cases e : (t - 1).toNat = i
    · omega
    · rw [if_neg e]
      rfl
theorem tab_updL {n : Int} {c g : Int → Nat} {t x : Int} (h1 : 1 ≤ t) (h2 : t ≤ n) (hg : ∀ k, k ≠ t → g k = c k) (hx : x = (g t : Int)) : ((tab n c).map D.int).set (t - 1).toNat (.int x) = (tab n g).map D.int := by
  rw [← tab_upd h1 h2 hg, hx, List.map_set]
abbrev gU (n : Int) (l : Ar) (e c : Int → Nat) (ts : List Int) (f1 f3 f4 : Bool) (a : Option Sl) : En := [some (.dat (.int n) false), some (.dat (arD (flp l c)) f1), some (.dat (inD (tab n e)) false), some (.own (inD (tab n fun k => e k - c k)) f3), some (.own (inD ts) f4), a, none]
theorem p_run_in : PP fs_run_in w_run_in ["points", "arrows", "table", "left", "told", "point", "number"] := by
  rintro ds Q ex ⟨n, l, e, rfl, ok, hb, hc, he, q⟩
  show w_run_in _ [some (.dat (.int n) false), some (.dat (arD l) false), some (.dat (inD (tab n e)) false), none, none, none, none]
  have h1 := ok.n1
  have h2 := ok.n12
  have ll := ok.len
  have hr := ok.rng
  have se : sumc n e ≤ n.toNat * 60 := by
    have a : sumc n e ≤ ((pts n).map fun _ => 60).sum := sum_le fun j hj => by
      have r := pts_mem.mp hj
      exact he j r.1 r.2
    rw [sum_const, pts_len] at a
    exact a
  subst_eqs
  refine ⟨size_ok (by simp), ?_⟩
  subst_eqs
  refine ⟨fun m Γ => ∃ c ts f1 f3 f4 b, Γ = gU n l e c ts f1 f3 f4 (os b) ∧ cons l c ∧ (∀ k, 1 ≤ k → k ≤ n → c k ≤ e k) ∧ legal n l ts ∧ ply l ts = flp l c ∧ ts.length = sumc n c ∧ m = sumc n e - sumc n c, ⟨_, fun _ => 0, [], false, false, true, none, ?_, cons_zero l, fun k _ _ => Nat.zero_le _, trivial, (flp_zero l).symm, sumc_zero.symm, rfl⟩, ?_⟩
  · show _ = [some (Sl.dat (.int n) false), some (.dat (arD (flp l fun _ => 0)) false), some (.dat (inD (tab n e)) false), some (.own (inD (tab n e)) false), some (.own (inD []) true), none, none]
    rw [flp_zero]
    rfl
  rintro m Γ ⟨c, ts, f1, f3, f4, b, rfl, hcc, le, lg, pl, tl, em⟩
  have sc : sumc n c ≤ sumc n e := sum_le fun j hj => by
    have r := pts_mem.mp hj
    exact le j r.1 r.2
  have fl := flp_len l c
  subst_eqs
  refine ⟨size_ok (by rw [List.length_map, List.length_map, tab_len]; omega), ?_⟩
  have dep : depE (gU n l e c ts f1 f3 f4 (os b)) (depOf (Vw.own 3) (D.lst (List.map D.int (tab n fun k => e k - c k))) f3) := fun z hz => by rw [List.mem_singleton.mp hz]
  refine lc_mapS (pts n) (fun k => (.int ((e k - c k : Nat) : Int), f3)) (fun k => .bl (decide ((0 : Int) < ((e k - c k : Nat) : Int)))) dep (fun k hk KT KF kk => ?_) ?_ (by unfold tab; rw [List.map_map, List.map_map]; rfl)
  · subst_eqs
    exact kk _ (by rfl)
  subst_eqs
  refine ⟨(pts n).map fun k => decide ((0 : Int) < ((e k - c k : Nat) : Int)), by rw [List.map_map]; rfl, ?_⟩
  by_cases z : ∃ k, (1 ≤ k ∧ k ≤ n) ∧ c k < e k
  · refine bT ?_ ?_
    · obtain ⟨k, kr, lt⟩ := z
      exact List.any_eq_true.mpr ⟨_, List.mem_map.mpr ⟨k, pts_mem.mpr kr, rfl⟩, decide_eq_true (by omega)⟩
    obtain ⟨j, jr, lt⟩ := z
    obtain ⟨x, hx, xlt⟩ := next_may ok hb hcc hc le jr.1 jr.2 lt
    subst_eqs
    refine ⟨n, _, rfl, by omega, by omega, by omega, ?_⟩
    subst_eqs
    have lm := may_len n (flp l c)
    refine ⟨size_ok (by rw [List.length_map, List.length_map]; omega), ?_⟩
    refine lc_filS (mayI n (flp l c)) (fun k => (.int k, true)) (fun k => decide (c k < e k)) .int dep0 (fun k hk KT KF kk => ?_) ?_ (by rw [List.map_map]; rfl)
    · have r := may_rng k hk
      subst_eqs
      rw [tab_at r.1 r.2]
      subst_eqs
      by_cases w : c k < e k
      · refine bT (yT (by omega)) ?_
        rw [if_pos (decide_eq_true w)] at kk
        cases b <;> exact kk _ (by rfl)
      · refine bF (yF (by omega)) ?_
        rw [if_neg (by rw [decide_eq_true_eq]; exact w)] at kk
        cases b <;> exact kk _ (by rfl)
    obtain ⟨p, r, ep⟩ : ∃ p r, (mayI n (flp l c)).filter (fun k => decide (c k < e k)) = p :: r := by
      cases y : (mayI n (flp l c)).filter (fun k => decide (c k < e k)) with
      | nil =>
        have : x ∈ (mayI n (flp l c)).filter (fun k => decide (c k < e k)) := List.mem_filter.mpr ⟨hx, decide_eq_true xlt⟩
        rw [y] at this
        cases this
      | cons p r => exact ⟨p, r, rfl⟩
    have hp : p ∈ (mayI n (flp l c)).filter (fun k => decide (c k < e k)) := by rw [ep]; exact List.mem_cons_self
    obtain ⟨hpm, hpl⟩ := List.mem_filter.mp hp
    have hpl := of_decide_eq_true hpl
    have pr := may_rng p hpm
    obtain ⟨et, hcc2⟩ := trn_flp hr hcc (no_out hpm)
    rw [ep]
    subst_eqs
    rw [show atI (List.map D.int (p :: r)) 0 = some (.int p) from at0 ..]
    subst_eqs
    refine ⟨_, p, rfl, by omega, ?_⟩
    rw [et]
    subst_eqs
    refine ⟨trivial, ?_⟩
    subst_eqs
    refine ⟨by omega, ?_⟩
    rw [tab_get (c := fun k => e k - c k) pr.1 pr.2]
    subst_eqs
    refine ⟨by rw [List.length_map, tab_len]; omega, ?_⟩
    subst_eqs
    refine ⟨trivial, ?_⟩
    subst_eqs
    refine ⟨size_lt (by rw [List.length_map]; omega), ?_⟩
    have sc2 : sumc n (inc c p) ≤ sumc n e := sum_le fun j hj => by
      have r := pts_mem.mp hj
      have := le j r.1 r.2
      by_cases y : j = p
      · subst y; rw [inc_at]; omega
      · rw [inc_ne c y]; exact this
    have si := sumc_inc (n := n) c pr.1 pr.2
    refine ⟨sumc n e - sumc n (inc c p), by omega, inc c p, ts ++ [p], true, f3, f4 && (true || true), some (.int p, true), ?_, hcc2, fun k k1 k2 => ?_, legal_snoc lg (by rw [pl]; exact hpm), by rw [ply_snoc, pl, et], by rw [List.length_append, tl, si]; rfl, rfl⟩
    · unfold gU
      rw [in_snoc, show inD (tab n fun k => e k - inc c p k) = .lst (((tab n fun k => e k - c k).map D.int).set (p - 1).toNat (.int (((e p - c p : Nat) : Int) - 1))) by
        rw [tab_updL (g := fun k => e k - inc c p k) pr.1 pr.2 (fun k hk => by show e k - inc c p k = _; rw [inc_ne c hk]) (by show _ = ((e p - inc c p p : Nat) : Int); rw [inc_at]; omega)]]
      rfl
    · have := le k k1 k2
      by_cases y : k = p
      · subst y; rw [inc_at]; omega
      · rw [inc_ne c y]; exact this
  · refine bF ?_ ?_
    · refine List.any_eq_false.mpr fun v hv w => ?_
      obtain ⟨k, hk, ek⟩ := List.mem_map.mp hv
      have r := pts_mem.mp hk
      rw [← ek] at w
      have := of_decide_eq_true w
      exact z ⟨k, r, by omega⟩
    subst_eqs
    refine q _ _ lg ?_
    rw [pl]
    exact flp_eq hr fun k k1 k2 => by
      have := le k k1 k2
      by_cases w : c k < e k
      · exact absurd ⟨k, ⟨k1, k2⟩, w⟩ z
      · omega
end Q

/-! S, part 7: the law's filled. -/
namespace Q
open PySem L2 Y
-- the head of a wp, unfolded, through tests that are told
local macro_rules | `(tactic| subst_eqs) => `(tactic| ((with_reducible conv => whnf); repeat ((with_reducible first | refine bT rfl ?_ | refine bF rfl ?_ | refine dT rfl ?_ | refine dF rfl ?_ | refine bF (nT rfl) ?_ | refine bT (nF rfl) ?_); (with_reducible conv => whnf))))
theorem cut_to (xs : List D) {j : Int} (h : 0 ≤ j) (h2 : j ≤ xs.length) : cutD xs none (some j) = xs.take j.toNat := by
  obtain ⟨m, rfl⟩ : ∃ m : Nat, j = m := ⟨j.toNat, by omega⟩
  unfold cutD
  rw [HT.sIx_none, HT.sIx_nat, Int.toNat_natCast, Nat.min_eq_left (by omega)]
  rfl
theorem cut_of (xs : List D) {j : Int} (h : 0 ≤ j) (h2 : j ≤ xs.length) : cutD xs (some j) none = xs.drop j.toNat := by
  obtain ⟨m, rfl⟩ : ∃ m : Nat, j = m := ⟨j.toNat, by omega⟩
  unfold cutD
  rw [HT.sIx_none, HT.sIx_nat, Int.toNat_natCast, Nat.min_eq_left (by omega)]
  exact List.take_of_length_le (by rw [List.length_drop]; omega)
theorem tab_set {n : Int} {c : Int → Nat} {t : Int} (h1 : 1 ≤ t) (h2 : t ≤ n) : (tab n c).set (t - 1).toNat ((c t : Int) + 1) = tab n (inc c t) := by
  rw [← tab_upd (g := inc c t) h1 h2 (fun k hk => inc_ne c hk), inc_at]
  rfl
theorem cut_inc {n : Int} {c : Int → Nat} {t : Int} (h1 : 1 ≤ t) (h2 : t ≤ n) : cutD ((tab n c).map D.int) none (some (t - 1)) ++ [D.int ((c t : Int) + 1)] ++ cutD ((tab n c).map D.int) (some t) none = (tab n (inc c t)).map D.int := by
  have len : ((tab n c).map D.int).length = n.toNat := by rw [List.length_map, tab_len]
  rw [cut_to _ (by omega) (by omega), cut_of _ (by omega) (by omega), ← tab_set h1 h2, List.map_set, List.set_eq_take_append_cons_drop, if_pos (by omega), List.append_assoc, show t.toNat = (t - 1).toNat + 1 by omega]
  rfl
theorem rep_zero (n : Int) : (D.lst (List.replicate n.toNat [D.int 0]).flatten) = inD (tab n fun _ => 0) := by
  rw [tab_D]
  unfold pts
  rw [List.map_map]
  have : ∀ m : Nat, (List.replicate m [D.int 0]).flatten = (List.range m).map fun _ => D.int 0 := fun m => by
    induction m with
    | zero => rfl
    | succ m ih => rw [List.replicate_succ', List.flatten_append, ih, List.range_succ, List.map_append]; rfl
  rw [this]
  rfl
theorem n_mul {n : Int} {m : Nat} (n1 : 1 ≤ n) (n2 : n ≤ 12) (m2 : m ≤ 61) : 0 ≤ n * (m : Int) ∧ n * (m : Int) ≤ 732 ∧ (n * (m : Int)).toNat = n.toNat * m := by
  have e : n * (m : Int) = ((n.toNat * m : Nat) : Int) := by
    rw [Int.natCast_mul, Int.toNat_of_nonneg (by omega)]
  have := Nat.mul_le_mul (show n.toNat ≤ 12 by omega) m2
  refine ⟨by omega, by omega, ?_⟩
  rw [e, Int.toNat_natCast]
theorem p__law_filled : PM fs__law_filled w__law_filled ["_law_draws_here", "_law_size", "_law_sides_here", "_law_counts", "_law_most", "_law_told", "_law_step", "_law_free", "_law_spot"] := by
  rintro os0 ds Q ⟨k, n, l, c0, m, rfl, ok, hb, hc0, le0, hm, hd, hk, q⟩
  show w__law_filled _ [some (.ino (.lst os0)), some (.dat (.int n) false), some (.dat (arD (flp l c0)) false), some (.dat (inD (tab n c0)) false), some (.dat (.int m) false), none, none, none, none]
  have n1 := ok.n1
  have n2 := ok.n12
  have ll := ok.len
  obtain ⟨s1, s2, s3⟩ := n_mul n1 n2 hm
  have ends : ∀ {c : Int → Nat} {ts : List Int} {os' : List D} {fr : Bool}, (∀ k, 1 ≤ k → k ≤ n → c k = m) → legal n (flp l c0) ts → (∀ k, ts.count k + c0 k = c k) → ts.length ≤ 732 → Dr (k + 732) os' → Q os' (.tup [inD ts, arD (flp l c)]) fr := fun {c ts os' fr} ce lg ct tl dr => by
    rw [flp_eq (d := fun _ => m) ok.rng ce, flp_const]
    exact q _ _ _ (dr.up (by omega)) lg (fun k k1 k2 => by rw [ct k, ce k k1 k2]) (by omega)
  subst_eqs
  refine ⟨size_ok (by simp), ?_⟩
  subst_eqs
  refine ⟨(Bd.of (A := 13) (by omega) (by omega)).mulW (Bd.of (A := 62) (by omega) (by omega)), ?_⟩
  subst_eqs
  refine ⟨⟨by omega, by omega⟩, ?_⟩
  subst_eqs
  refine ⟨rfl, ?_⟩
  refine for_pre (List.range (n * m).toNat) (fun (i : Nat) => (.int (0 + i), true)) (fun pre Γ => ∃ os' c ts f2 f3 f5 a6 a7 b8, Γ = [some (.ino (.lst os')), some (.dat (.int n) false), some (.dat (arD (flp l c)) f2), some (.dat (inD (tab n c)) f3), some (.dat (.int m) false), some (.own (inD ts) f5), a6, a7, os b8] ∧ cons l c ∧ (∀ k, 1 ≤ k → k ≤ n → c k ≤ m) ∧ legal n (flp l c0) ts ∧ ply (flp l c0) ts = flp l c ∧ (∀ k, ts.count k + c0 k = c k) ∧ ts.length = pre.length ∧ sumc n c = sumc n c0 + pre.length ∧ Dr (k + pre.length) os') ⟨os0, c0, [], _, _, _, _, _, none, rfl, hc0, le0, trivial, rfl, fun k => by simp, rfl, rfl, hd⟩ ?_ ?_
  · rintro pre a r Γ N e ⟨os', c, ts, f2, f3, f5, a6, a7, b8, rfl, hc, le, lg, pl, ct, tl, sc, dr⟩ hN
    obtain ⟨_, hl⟩ := range_pre e
    have lf := flp_len l c
    have lm := may_len n (flp l c)
    subst_eqs
    refine ⟨n, _, rfl, by omega, by omega, by omega, ?_⟩
    subst_eqs
    refine ⟨size_ok (by rw [List.length_map, List.length_map]; omega), ?_⟩
    refine lc_filS (mayI n (flp l c)) (fun k => (.int k, true)) (fun k => decide (c k < m)) .int dep0 (fun k hk KT KF kk => ?_) ?_ (by rw [List.map_map]; rfl)
    · have r := may_rng k hk
      subst_eqs
      rw [tab_at r.1 r.2]
      subst_eqs
      by_cases w : c k < m
      · refine bT (yT (by omega)) ?_
        rw [if_pos (decide_eq_true w)] at kk
        cases b8 <;> exact kk _ (by rfl)
      · refine bF (yF (by omega)) ?_
        rw [if_neg (by rw [decide_eq_true_eq]; exact w)] at kk
        cases b8 <;> exact kk _ (by rfl)
    have fsub : ∀ x ∈ (mayI n (flp l c)).filter (fun k => decide (c k < m)), x ∈ mayI n (flp l c) ∧ c x < m := fun x hx => ⟨(List.mem_filter.mp hx).1, of_decide_eq_true (List.mem_filter.mp hx).2⟩
    have fmem : ∀ x, x ∈ mayI n (flp l c) → c x < m → x ∈ (mayI n (flp l c)).filter (fun k => decide (c k < m)) := fun x hx w => List.mem_filter.mpr ⟨hx, decide_eq_true w⟩
    have flen := List.length_filter_le (fun k => decide (c k < m)) (mayI n (flp l c))
    generalize (mayI n (flp l c)).filter (fun k => decide (c k < m)) = fs at fsub fmem flen ⊢
    subst_eqs
    refine ⟨size_ok (by simp), ?_⟩
    subst_eqs
    refine ⟨⟨okD_in _, okD_in []⟩, ?_⟩
    rw [show (pd (D.lst (fs.map D.int))).eqv (pd (D.lst (List.map (fun x : D × Bool => x.1) []))) = decide (fs = []) from eqv_nil fs]
    by_cases z : fs = []
    · refine bT (decide_eq_true z) ?_
      subst_eqs
      refine ⟨size_ok (by simp), ?_⟩
      subst_eqs
      refine ⟨dr.flt, ends (fun j j1 j2 => ?_) lg ct (by omega) (dr.up (by omega))⟩
      have := le j j1 j2
      by_cases w : c j < m
      · obtain ⟨x, hx, xl⟩ := next_may ok hb hc (cons_const l m) le j1 j2 w
        have := fmem x hx xl
        rw [z] at this
        cases this
      · omega
    · refine bF (decide_eq_false z) ?_
      have lpos : 0 < fs.length := List.length_pos_iff.mpr z
      subst_eqs
      refine ⟨trivial, ?_⟩
      subst_eqs
      refine ⟨dr.flt, _, rfl, dr, by omega, fun os2 v hd2 => ?_⟩
      subst_eqs
      rw [List.length_map]
      refine ⟨(by omega : (0 : Int) < fs.length), ?_⟩
      have bw := Bd.mod v (A := (fs.length : Int)) (by omega)
      obtain ⟨t, et, gt⟩ := atI_int (nm := fs) bw.1 bw.2
      obtain ⟨ht, tlt⟩ := fsub t (List.mem_of_getElem? gt)
      have rt := may_rng t ht
      obtain ⟨e2, hc2⟩ := trn_flp ok.rng hc (no_out ht)
      subst_eqs
      rw [et]
      subst_eqs
      rw [tab_at rt.1 rt.2]
      subst_eqs
      have len : ((tab n c).map D.int).length = n.toNat := by rw [List.length_map, tab_len]
      have l1 : (cutD ((tab n c).map D.int) none (some (t - 1))).length ≤ 12 := by
        rw [cut_to _ (by omega) (by omega), List.length_take]
        omega
      have l2 : (cutD ((tab n c).map D.int) (some t) none).length ≤ 12 := by
        rw [cut_of _ (by omega) (by omega), List.length_drop]
        omega
      refine ⟨size_ok (by simp), ?_⟩
      subst_eqs
      refine ⟨size_ok (by show _ + 1 ≤ _; omega), ?_⟩
      subst_eqs
      refine ⟨size_ok (by rw [List.length_append]; show _ + 1 + _ ≤ _; omega), ?_⟩
      rw [show List.map (fun x : D × Bool => x.1) [(D.int ((c t : Int) + 1), true)] = [D.int ((c t : Int) + 1)] from rfl, cut_inc rt.1 rt.2]
      subst_eqs
      refine ⟨trivial, ?_⟩
      subst_eqs
      refine ⟨size_lt (by rw [List.length_map]; omega), ?_⟩
      subst_eqs
      refine ⟨_, t, rfl, by omega, ?_⟩
      rw [e2]
      subst_eqs
      refine hN _ ⟨os2, inc c t, ts ++ [t], true, f3 && true && f3, f5 && true, some (.dat (.int (0 + (a : Int))) true), some (.dat (.lst (fs.map .int)) true), some (.int t, true), ?_, hc2, fun j j1 j2 => ?_, legal_snoc lg (by rw [pl]; exact ht), by rw [ply_snoc, pl, e2], fun j => ?_, by rw [List.length_append, List.length_append, tl]; rfl, by rw [sumc_inc c rt.1 rt.2, List.length_append, sc]; rfl, hd2.up (by rw [List.length_append, List.length_singleton]; omega)⟩
      · rw [in_snoc]
        rfl
      · have := le j j1 j2
        by_cases y : j = t
        · subst y; rw [inc_at]; omega
        · rw [inc_ne c y]; exact this
      · have := ct j
        rw [List.count_append]
        by_cases y : j = t
        · subst y
          rw [inc_at]
          simp
          omega
        · rw [inc_ne c y, List.count_singleton, if_neg (by simp; exact fun z => y z.symm)]
          omega
  · rintro Γ ⟨os', c, ts, f2, f3, f5, a6, a7, b8, rfl, hc, le, lg, pl, ct, tl, sc, dr⟩
    rw [List.length_range] at sc tl dr
    subst_eqs
    refine ⟨size_ok (by simp), ?_⟩
    subst_eqs
    exact ⟨dr.flt, ends (fun j j1 j2 => sum_full le (by omega) j1 j2) lg ct (by omega) (dr.up (by omega))⟩
end Q

/-! S, part 8: the law's again_right. -/
namespace Q
open PySem L2 Y
-- the head of a wp, unfolded, through tests that are told
local macro_rules | `(tactic| subst_eqs) => `(tactic| ((with_reducible conv => whnf); repeat ((with_reducible first | refine bT rfl ?_ | refine bF rfl ?_ | refine dT rfl ?_ | refine dF rfl ?_ | refine bF (nT rfl) ?_ | refine bT (nF rfl) ?_); (with_reducible conv => whnf))))
theorem eqv_self (l : Ar) : (pd (arD l)).eqv (pd (arD l)) = true := by
  have main : ∀ l : Ar, PyData.eqvAll (pdAll (l.map prD)) (pdAll (l.map prD)) = true := fun l => by
    induction l with
    | nil => rfl
    | cons a l ih =>
      have e : (pd (prD a)).eqv (pd (prD a)) = true := by rw [eqv_pr]; exact decide_eq_true rfl
      rw [List.map_cons]
      unfold pdAll PyData.eqvAll
      rw [e, ih]
      rfl
  show PyData.eqv (pd (.lst (l.map prD))) (pd (.lst (l.map prD))) = true
  unfold pd PyData.eqv
  exact main l
theorem n_sq {n : Int} (n1 : 1 ≤ n) (n2 : n ≤ 12) : 1 ≤ n * n ∧ n * n ≤ 144 ∧ n ≤ n * n ∧ (n * n + 1).toNat = n.toNat * n.toNat + 1 := by
  have a := Int.mul_le_mul n1 n1 (by omega) (by omega)
  have b := Int.mul_le_mul n2 n2 (by omega) (by omega)
  have c := Int.mul_le_mul_of_nonneg_right n1 (show (0 : Int) ≤ n by omega)
  refine ⟨by omega, by omega, by omega, ?_⟩
  have e : n * n = ((n.toNat * n.toNat : Nat) : Int) := by
    rw [Int.natCast_mul, Int.toNat_of_nonneg (by omega)]
  omega
theorem p__law_again_right : PM fs__law_again_right w__law_again_right ["_law_draws_here", "_law_size", "_law_sides_here", "_law_spot", "_law_now", "_law_step", "_law_free"] := by
  rintro os0 ds Q ⟨k, n, l, rfl, ok, hb, hd, hk, q⟩
  show w__law_again_right _ [some (.ino (.lst os0)), some (.dat (.int n) false), some (.dat (arD l) false), none, none, none, none]
  have n1 := ok.n1
  have n2 := ok.n12
  have ll := ok.len
  obtain ⟨s1, s2, s3, s4⟩ := n_sq n1 n2
  subst_eqs
  refine ⟨trivial, ?_⟩
  subst_eqs
  refine ⟨hd.flt, _, rfl, hd, by omega, fun os1 v hd1 => ?_⟩
  subst_eqs
  refine ⟨(by omega : (0 : Int) < n), ?_⟩
  have bv := Bd.mod v (A := n) (by omega)
  unfold Bd at bv
  subst_eqs
  obtain ⟨s, hs⟩ : ∃ s, 1 + v % n = s := ⟨_, rfl⟩
  rw [hs]
  refine ⟨(Bd.of (A := 13) (by omega) (by omega)).mulW (Bd.of (A := 13) (by omega) (by omega)), ?_⟩
  subst_eqs
  refine ⟨⟨by omega, by omega⟩, ?_⟩
  subst_eqs
  refine ⟨rfl, ?_⟩
  refine for_pre (List.range (n * n + 1).toNat) (fun (i : Nat) => (.int (0 + i), true)) (fun pre Γ => ∃ os' c f4 a5 a6, Γ = [some (.ino (.lst os')), some (.dat (.int n) false), some (.dat (arD l) false), some (.dat (.int s) true), some (.dat (arD (flp l c)) f4), a5, a6] ∧ cons l c ∧ c s = 0 ∧ sumc n c = pre.length ∧ Dr (k + 1 + pre.length) os') ⟨os1, fun _ => 0, _, _, _, by rw [flp_zero], cons_zero l, rfl, sumc_zero, hd1⟩ ?_ ?_
  · rintro pre a r Γ N e ⟨os', c, f4, a5, a6, rfl, hc, cs, sc, dr⟩ hN
    obtain ⟨_, hl⟩ := range_pre e
    have lf := flp_len l c
    have lm := may_len n (flp l c)
    subst_eqs
    refine ⟨n, _, rfl, by omega, by omega, by omega, ?_⟩
    subst_eqs
    refine ⟨⟨rfl, okD_in _⟩, ?_⟩
    rw [any_in]
    by_cases z : s ∈ mayI n (flp l c)
    · refine bT (decide_eq_true z) ?_
      subst_eqs
      refine ⟨size_ok (by simp), ?_⟩
      subst_eqs
      refine ⟨n, flp l c, [s], rfl, ok.flp c, ⟨z, trivial⟩, ?_⟩
      subst_eqs
      refine ⟨_, s, rfl, by omega, ?_⟩
      subst_eqs
      refine ⟨_, rfl, by rw [trn_len]; omega, fun fr => ?_⟩
      subst_eqs
      refine ⟨⟨okD_ar _, okD_ar _⟩, ?_⟩
      refine ⟨dr.flt, ?_⟩
      show Q os' (.bl ((pd (arD (srt (trn (flp l c) s)))).eqv (pd (arD (srt (trn (flp l c) s)))))) true
      rw [eqv_self]
      exact q _ (dr.up (by omega))
    · refine bF (decide_eq_false z) ?_
      have lpos : 0 < (mayI n (flp l c)).length := List.length_pos_iff.mpr (free_may (ok.flp c) (free_flp ok hc hb))
      subst_eqs
      refine ⟨trivial, ?_⟩
      subst_eqs
      refine ⟨dr.flt, _, rfl, dr, by omega, fun os2 v2 hd2 => ?_⟩
      subst_eqs
      rw [List.length_map]
      refine ⟨(by omega : (0 : Int) < (mayI n (flp l c)).length), ?_⟩
      have bw := Bd.mod v2 (A := ((mayI n (flp l c)).length : Int)) (by omega)
      obtain ⟨t, et, gt⟩ := atI_int (nm := mayI n (flp l c)) bw.1 bw.2
      have ht := List.mem_of_getElem? gt
      have rt := may_rng t ht
      obtain ⟨e2, hc2⟩ := trn_flp ok.rng hc (no_out ht)
      subst_eqs
      rw [et]
      subst_eqs
      refine ⟨_, t, rfl, by omega, ?_⟩
      rw [e2]
      subst_eqs
      refine hN _ ⟨os2, inc c t, _, _, _, rfl, hc2, ?_, by rw [sumc_inc c rt.1 rt.2, List.length_append, List.length_singleton, sc], hd2.up (by rw [List.length_append, List.length_singleton]; omega)⟩
      rw [inc_ne c (fun y : s = t => z (by rw [y]; exact ht))]
      exact cs
  · rintro Γ ⟨os', c, f4, a5, a6, rfl, hc, cs, sc, dr⟩
    have := near_sum ok hc (s := s) (by omega) (by omega) cs
    rw [List.length_range] at sc
    omega
end Q

/-! S, part 9: sorted ints, lists backwards, how many turns. -/
namespace Q
open PySem L2 Y
theorem pick_rev {α : Type} (xs : List α) : pickL xs (some (-1)) = xs.reverse := by
  unfold pickL
  rw [PySem.W.krv_bounds]
  show (sliceRange ((xs.length : Int) - 1) (-1) (-1)).filterMap (xs[·]?) = _
  rw [PySem.W.krv_sliceRange, PySem.W.krv_range, List.filterMap_reverse]
  congr 1
  induction xs with
  | nil => rfl
  | cons a xs ih =>
    rw [List.length_cons, List.range_succ_eq_map, List.filterMap_cons, List.filterMap_map]
    show a :: _ = _
    congr 1
theorem leI (a b : Int) : leD (.int a) (.int b) = decide (a ≤ b) := by
  show (!PySem.W.dataLt (pd (.int b)) (pd (.int a))) = _
  rw [show (pd (.int b)) = .int b from rfl, show (pd (.int a)) = .int a from rfl, PySem.W.dataLt_int]
  by_cases h : b < a
  · rw [decide_eq_true h, decide_eq_false (by omega)]; rfl
  · rw [decide_eq_false h, decide_eq_true (by omega)]; rfl
theorem sort_in (l : List Int) (hl : l.length ≤ 1000) : SortOk (l.map .int) := by
  refine ⟨?_, ?_, ?_, size_ok (by rw [List.length_map]; omega), fun d hd => ?_⟩
  · clear hl
    induction l with
    | nil => rfl
    | cons a l ih =>
      rw [List.map_cons]
      unfold plainAll
      rw [ih]
      rfl
  · rw [List.map_map]
    exact PySem.W.AllAlike.of fun a b => rfl
  · rw [List.map_map]
    exact PySem.W.Sortable.others fun a => ⟨(fun z => by cases z), (fun xs z => by cases z)⟩
  · obtain ⟨a, _, rfl⟩ := List.mem_map.mp hd
    exact Nat.le_trans (depth_pd _) (by unfold dep; decide)
theorem sorted_int : ∀ {l m : List Int}, l.Perm m → l.Pairwise (· ≤ ·) → m.Pairwise (· ≤ ·) → l = m
  | [], m, pm, _, _ => (List.nil_perm.mp pm).symm
  | p :: l, [], pm, _, _ => by simp at pm
  | p :: l, q :: m, pm, h, k => by
    have e : p = q := by
      have hp := List.pairwise_cons.mp h
      have kq := List.pairwise_cons.mp k
      rcases List.mem_cons.mp (pm.mem_iff.mp (List.mem_cons_self ..)) with e | e
      · exact e
      · rcases List.mem_cons.mp (pm.mem_iff.mpr (List.mem_cons_self (a := q))) with e2 | e2
        · exact e2.symm
        · have := hp.1 _ e2
          have := kq.1 _ e
          omega
    subst e
    rw [sorted_int (List.Perm.cons_inv pm) (List.pairwise_cons.mp h).2 (List.pairwise_cons.mp k).2]
theorem pts_sorted (n : Int) : (pts n).Pairwise (· ≤ ·) := by
  unfold pts
  rw [List.pairwise_map]
  exact List.pairwise_lt_range.imp fun h => by omega
theorem sort_pts {n : Int} {l : List Int} (pm : l.Perm (pts n)) : (l.map D.int).mergeSort leD = (pts n).map D.int := by
  have e : (l.map D.int).mergeSort leD = (l.mergeSort fun a b => leD (.int a) (.int b)).map D.int := (List.map_mergeSort (f := D.int) (r := fun a b => leD (.int a) (.int b)) (s := leD) (l := l) fun _ _ _ _ => rfl).symm
  rw [e]
  congr 1
  refine sorted_int ((List.mergeSort_perm ..).trans pm) ?_ (pts_sorted n)
  have := List.pairwise_mergeSort (le := fun a b : Int => leD (.int a) (.int b)) (fun a b c h k => by
    rw [leI, decide_eq_true_eq] at h k ⊢
    omega) (fun a b => by
    rw [leI, leI, Bool.or_eq_true, decide_eq_true_eq, decide_eq_true_eq]
    omega) l
  exact this.imp fun h => by rw [leI, decide_eq_true_eq] at h; exact h
theorem len_sum {n : Int} : ∀ {ts : List Int}, (∀ t ∈ ts, 1 ≤ t ∧ t ≤ n) → sumc n (fun k => ts.count k) = ts.length
  | [], _ => by
    show sumc n (fun k => 0) = 0
    exact sumc_zero
  | t :: ts, h => by
    have e : (fun k => (t :: ts).count k) = inc (fun k => ts.count k) t := funext fun k => by
      rw [List.count_cons]
      unfold inc
      by_cases z : k = t
      · subst z; simp
      · have : (t == k) = false := by simp; exact fun y => z y.symm
        rw [this, if_neg z]
        simp
    have r := h t List.mem_cons_self
    rw [e, sumc_inc _ r.1 r.2, len_sum fun u hu => h u (List.mem_cons_of_mem _ hu), List.length_cons]
theorem len_full {n : Int} {ts : List Int} {m : Nat} (h : ∀ t ∈ ts, 1 ≤ t ∧ t ≤ n) (k : ∀ k, 1 ≤ k → k ≤ n → ts.count k = m) : ts.length = n.toNat * m := by
  rw [← len_sum h]
  unfold sumc
  rw [List.map_congr_left (g := fun _ => m) fun j hj => by have r := pts_mem.mp hj; exact k j r.1 r.2, sum_const, pts_len]
theorem perm_pts {n : Int} {ts : List Int} (h : ∀ t ∈ ts, 1 ≤ t ∧ t ≤ n) (k : ∀ k, 1 ≤ k → k ≤ n → ts.count k = 1) : ts.Perm (pts n) := by
  rw [List.perm_iff_count]
  intro a
  by_cases z : 1 ≤ a ∧ a ≤ n
  · rw [k a z.1 z.2, (pts_nodup n).count, if_pos (pts_mem.mpr z)]
  · rw [List.count_eq_zero_of_not_mem fun y => z (h a y), List.count_eq_zero_of_not_mem fun y => z (pts_mem.mp y)]
theorem rep3 (ws : List Int) : D.lst (List.replicate (Int.toNat 3) (ws.map D.int)).flatten = inD (ws ++ (ws ++ ws)) := by
  show D.lst (ws.map D.int ++ (ws.map D.int ++ (ws.map D.int ++ []))) = _
  unfold inD
  rw [List.map_append, List.map_append, List.append_nil]
end Q

/-! S, part 10: the law's right, behind the turns. -/
namespace Q
open PySem L2 Y
-- the head of a wp, unfolded, through tests that are told
local macro_rules | `(tactic| subst_eqs) => `(tactic| ((with_reducible conv => whnf); repeat ((with_reducible first | refine bT rfl ?_ | refine bF rfl ?_ | refine dT rfl ?_ | refine dF rfl ?_ | refine bF (nT rfl) ?_ | refine bT (nF rfl) ?_); (with_reducible conv => whnf))))
@[reducible] def w_rightB : WS := (wSeq (wIfS (wOr (wTst (wOp kNe (wC1 kLen (wVal (wOp kAdd (wVar 5) (wVar 9)))) (wOp kMul (wVar 1) (wVar 8)))) (wTst (wOp kNe (wCall fs_after_turns (wCons (wVar 1) (wCons (wVar 2) (wCons (wOp kAdd (wVar 5) (wVar 9)) (wNil))))) (wVar 4)))) (wRet (wC (.bl false))) (wNext)) (wSeq (wAsg (wCallM 0 fs__law_filled (wCons (wVar 1) (wCons (wVar 2) (wCons (wOp kMul (wLst (wCons (wC (.int 0)) (wNil))) (wVar 1)) (wCons (wC (.int 1)) (wNil)))))) (wTgt (wgCons (wName 11) (wgCons (wName 10) (wgNil))))) (wSeq (wIfS (wOr (wTst (wOp kNe (wC1 kSorted (wLook 11)) (wLR2 (wC (.int 1)) (wOp kAdd (wVar 1) (wC (.int 1)))))) (wTst (wOp kNe (wCall fs_after_turns (wCons (wVar 1) (wCons (wVar 2) (wCons (wOp kMul (wVar 11) (wC (.int 3))) (wNil))))) (wVar 4)))) (wRet (wC (.bl false))) (wNext)) (wSeq (wIfS (wTst (wOp kNe (wCall fs_least_table (wCons (wVar 1) (wCons (wVar 2) (wCons (wVar 6) (wNil))))) (wLc (wItL (wLook 7)) (wName 15) (wYes) (wOp (kI0 fun i j => .int (i - j)) (wVar 15) (wC1 kMin (wLook 7))) [15]))) (wRet (wC (.bl false))) (wNext)) (wSeq (wIfS (wTst (wOp kNe (wCall fs_after_turns (wCons (wVar 1) (wCons (wVar 6) (wCons (wCall fs_run_to (wCons (wVar 1) (wCons (wVar 6) (wCons (wVar 2) (wNil))))) (wNil))))) (wVar 4))) (wRet (wC (.bl false))) (wNext)) (wSeq (wSet 12 (wCallM 0 fs__law_shuffled (wCons (wCall fs_may_turn (wCons (wVar 1) (wCons (wVar 6) (wNil)))) (wNil)))) (wSeq (wSet 13 (wCall fs_after_turns (wCons (wVar 1) (wCons (wVar 6) (wCons (wVar 12) (wNil)))))) (wRet (wAndV (wOp kNe (wVar 12) (wLst (wNil))) (wAndV (wOp kEq (wVar 13) (wCall fs_after_turns (wCons (wVar 1) (wCons (wVar 6) (wCons (wSlK (wLook 12) (wNeg (wC (.int 1)))) (wNil)))))) (wOp kEq (wC1 kRepr (wLook 2)) (wVar 3))))))))))))
theorem right_behind {n : Int} {l : Ar} {c : Int → Nat} {ts us : List Int} {M : Nat} {k : Nat} {os : List D} {f3 f4 f5 f6 f7 f8 f9 f10 : Bool} {Q : List D → D → Bool → Prop} (ok : Ok n l) (hb : brd n l = []) (hc : cons l c) (fc : ∀ j, c j = ts.count j) (lt : ts.length ≤ 60) (lg : legal n l ts) (e1 : ply l ts = flp l c) (hM : M ≤ 61)
    (lg3 : legal n (flp l c) us) (ct3 : ∀ k, 1 ≤ k → k ≤ n → us.count k + c k = M) (hd : Dr k os) (hk : k ≤ 2000000) (q : ∀ os', Dr (k + 1000) os' → Q os' (.bl true) true) :
    w_rightB { nx := fun Γ => inoQ Γ fun o => Q o .non true, rt := fun d fr Γ => inoQ Γ fun o => Q o d fr } [some (.ino (.lst os)), some (.dat (.int n) false), some (.dat (arD l) false), some (.dat (.str (pd (arD l)).shown) f3), some (.dat (arD (srt l)) f4), some (.dat (inD ts) f5), some (.dat (arD (flp l c)) f6), some (.dat (inD (tab n c)) f7), some (.dat (.int (M : Int)) f8), some (.dat (inD us) f9), some (.dat (arD l) f10), none, none, none, none, none, none] := by
  have n1 := ok.n1
  have n2 := ok.n12
  have ll := ok.len
  have pl := pts_len n
  have sl : Sh 2 400 (arD l) := .ars n2 ok.rng ll
  have rl := sl.rep
  have kl := sl.okS
  have usr := lg3.rng
  have tsr := lg.rng
  have full : ∀ j, 1 ≤ j → j ≤ n → (ts ++ us).count j = M := fun j j1 j2 => by
    rw [List.count_append, ← fc j, ← ct3 j j1 j2]
    omega
  have lgA : legal n l (ts ++ us) := legal_app lg (by rw [e1]; exact lg3)
  have allr : ∀ t ∈ ts ++ us, 1 ≤ t ∧ t ≤ n := fun t h => by
    rcases List.mem_append.mp h with h | h
    · exact tsr t h
    · exact usr t h
  have hlen := len_full allr full
  obtain ⟨s1, s2, s3⟩ := n_mul (m := M) n1 n2 (by omega)
  have lb := ok.len
  have pA : ply l (ts ++ us) = l := by
    obtain ⟨c2, hc2, e2, f2⟩ := legal_flp ok.rng (cons_zero l) (show legal n (flp l fun _ => 0) (ts ++ us) by rw [flp_zero]; exact lgA)
    rw [flp_zero] at e2
    rw [e2, flp_eq (d := fun _ => M) ok.rng fun j j1 j2 => by rw [f2 j, full j j1 j2]; omega, flp_const]
  subst_eqs
  refine ⟨size_ok (by rw [List.length_map, List.length_map, ← List.length_append, hlen]; omega), ?_⟩
  subst_eqs
  refine ⟨(Bd.of (A := 13) (by omega) (by omega)).mulW (Bd.of (A := 62) (by omega) (by omega)), ?_⟩
  subst_eqs
  refine bF (nT (yT (by rw [← List.map_append, List.length_map, hlen]; omega))) ?_
  subst_eqs
  refine ⟨size_ok (by rw [List.length_map, List.length_map, ← List.length_append, hlen]; omega), ?_⟩
  subst_eqs
  refine ⟨n, l, ts ++ us, by show [D.int n, arD l, D.lst (List.map D.int ts ++ List.map D.int us)] = _; rw [← List.map_append], ok, lgA, ?_⟩
  rw [pA]
  subst_eqs
  refine ⟨⟨okD_ar _, okD_ar _⟩, ?_⟩
  refine bF (nT (eqv_self _)) ?_
  subst_eqs
  refine ⟨trivial, ?_⟩
  subst_eqs
  refine ⟨size_ok (by simp), ?_⟩
  subst_eqs
  refine ⟨⟨by omega, by omega, size_ok (by show 1 * n.toNat ≤ _; omega)⟩, ?_⟩
  subst_eqs
  refine ⟨hd.flt, k, n, l, fun _ => 0, 1, ?_, ok, hb, cons_zero l, fun _ _ _ => Nat.zero_le _, by decide, hd, by omega, fun os2 ws fr2 hd2 lg2 ct2 wl => ?_⟩
  · show [D.int n, arD l, D.lst (List.replicate n.toNat [D.int 0]).flatten, D.int 1] = _
    rw [rep_zero, flp_zero]
    rfl
  rw [flp_zero] at lg2
  have wr := lg2.rng
  have w1 : ∀ j, 1 ≤ j → j ≤ n → ws.count j = 1 := fun j j1 j2 => by have := ct2 j j1 j2; omega
  have wp := perm_pts wr w1
  have pW : ply l ws = l := by
    obtain ⟨c2, hc2, e2, f2⟩ := legal_flp ok.rng (cons_zero l) (show legal n (flp l fun _ => 0) ws by rw [flp_zero]; exact lg2)
    rw [flp_zero] at e2
    rw [e2, flp_eq (d := fun _ => 1) ok.rng fun j j1 j2 => by rw [f2 j, w1 j j1 j2], flp_const]
  have lgW : legal n l (ws ++ (ws ++ ws)) := legal_app lg2 (by rw [pW]; exact legal_app lg2 (by rw [pW]; exact lg2))
  have pWWW : ply l (ws ++ (ws ++ ws)) = l := by rw [ply_app, ply_app, pW, pW, pW]
  subst_eqs
  refine ⟨sort_in ws (by omega), ?_⟩
  rw [sort_pts wp]
  subst_eqs


  refine ⟨⟨by decide, by decide, by omega, by omega⟩, ?_⟩
  rw [rg_pts]
  subst_eqs
  refine ⟨⟨okD_in _, okD_in _⟩, ?_⟩
  refine bF (nT (eqv_in _)) ?_
  subst_eqs
  refine ⟨⟨by decide, by decide, size_ok (by rw [List.length_map]; show _ * 3 ≤ _; omega)⟩, ?_⟩
  rw [rep3]
  subst_eqs
  refine ⟨n, l, ws ++ (ws ++ ws), rfl, ok, lgW, ?_⟩
  rw [pWWW]
  subst_eqs
  refine ⟨⟨okD_ar _, okD_ar _⟩, ?_⟩
  refine bF (nT (eqv_self _)) ?_
  subst_eqs
  refine ⟨n, l, c, rfl, ok, hb, hc, fun mn hmn => ?_⟩
  subst_eqs
  refine ⟨size_ok (by rw [List.length_map, List.length_map, tab_len]; omega), ?_⟩
  refine lc_mapS (pts n) (fun k => (.int (c k), f7)) (fun k => .int ((c k - mn : Nat) : Int)) dep0 (fun k hk KT KF kk => ?_) ?_ (by unfold tab; rw [List.map_map, List.map_map]; rfl)
  · have r := pts_mem.mp hk
    have hm := hmn.2 k r.1 r.2
    subst_eqs
    refine ⟨tab n c, rfl, by rw [tab_len]; omega, fun m m1 m2 => ?_⟩
    have em : m = mn := by
      obtain ⟨⟨x, x1, x2, x3⟩, hx⟩ := hmn
      have a := m2 _ (List.mem_map.mpr ⟨x, pts_mem.mpr ⟨x1, x2⟩, rfl⟩)
      obtain ⟨y, hy, ey⟩ := List.mem_map.mp m1
      have yr := pts_mem.mp hy
      have b := hx y yr.1 yr.2
      omega
    subst em
    subst_eqs
    have z : (fun i j => D.int (i - j)) (c k : Int) (mn : Int) = .int ((c k - mn : Nat) : Int) := by
      show D.int ((c k : Int) - mn) = _
      rw [show (c k : Int) - mn = ((c k - mn : Nat) : Int) by omega]
    rw [z]
    exact kk _ (by rfl)
  rw [← tab_D n fun k => c k - mn]
  subst_eqs
  refine ⟨⟨okD_in _, okD_in _⟩, ?_⟩
  refine bF (nT (eqv_in _)) ?_
  subst_eqs
  obtain ⟨bk1, bk2⟩ := flp_back ok hc (M := 60) (fun j _ _ => by rw [fc j]; exact Nat.le_trans List.count_le_length lt)
  refine ⟨n, flp l c, fun k => 60 - c k, by rw [bk1]; rfl, ok.flp c, free_flp ok hc hb, bk2, fun j _ _ => by show 60 - c j ≤ 60; omega, fun vs fr5 lg5 pl5 => ?_⟩
  rw [bk1] at pl5
  subst_eqs
  refine ⟨n, flp l c, vs, rfl, ok.flp c, lg5, ?_⟩
  rw [pl5]
  subst_eqs
  refine ⟨⟨okD_ar _, okD_ar _⟩, ?_⟩
  refine bF (nT (eqv_self _)) ?_
  subst_eqs
  have lm := may_len n (flp l c)
  have fne := free_may (ok.flp c) (free_flp ok hc hb)
  refine ⟨trivial, ?_⟩
  subst_eqs
  refine ⟨n, flp l c, rfl, ok.flp c, ?_⟩
  subst_eqs
  refine ⟨hd2.flt, _, _, rfl, hd2, by rw [List.length_map]; omega, by rw [List.length_map]; omega, plain_ints _, Nat.le_trans (dep_ints _) (by decide), fun os3 ys fr6 hd3 pm => ?_⟩
  obtain ⟨fs, rfl, pm2⟩ := unmap unI (fun _ => rfl) pm
  have fnd : fs.Nodup := pm2.nodup_iff.mpr ((pts_nodup n).filter _)
  have fml : legal n (flp l c) fs := legal_may fnd fun t ht => pm2.subset ht
  have frv : legal n (flp l c) fs.reverse := legal_may ((List.reverse_perm fs).nodup_iff.mpr fnd) fun t ht => pm2.subset (List.mem_reverse.mp ht)
  have fsn : fs ≠ [] := fun z => fne (by rw [z] at pm2; exact (List.nil_perm.mp pm2))
  have fpl := ply_perm (ok.flp c) fml frv (List.reverse_perm fs).symm
  have fln := pm2.length_eq
  rw [List.length_map] at hd3
  subst_eqs
  refine ⟨n, flp l c, fs, rfl, ok.flp c, fml, ?_⟩
  subst_eqs
  refine ⟨size_ok (by simp), ?_⟩
  subst_eqs
  refine ⟨⟨okD_in _, okD_in []⟩, ?_⟩
  rw [show (pd (D.lst (fs.map D.int))).eqv (pd (D.lst (List.map (fun x : D × Bool => x.1) []))) = decide (fs = []) from eqv_nil fs]
  refine dT (nF (yF fsn)) ?_
  subst_eqs
  refine ⟨by decide, ?_⟩
  subst_eqs
  refine ⟨n, flp l c, fs.reverse, by rw [pick_rev, ← List.map_reverse]; rfl, ok.flp c, frv, ?_⟩
  rw [← fpl]
  subst_eqs
  refine ⟨⟨okD_ar _, okD_ar _⟩, ?_⟩
  refine dT (eqv_self _) ?_
  subst_eqs
  constructor
  · exact rl
  subst_eqs
  constructor
  · exact ⟨kl, kl⟩
  with_reducible conv => whnf
  refine ⟨hd3.flt, ?_⟩
  show Q os3 (.bl ((pd (.str (pd (arD l)).shown)).eqv (pd (.str (pd (arD l)).shown)))) true
  rw [eq_str rfl]
  exact q _ (hd3.up (by omega))

end Q

/-! S, part 11: the law's right. -/
namespace Q
open PySem L2 Y
-- the head of a wp, unfolded, through tests that are told
local macro_rules | `(tactic| subst_eqs) => `(tactic| ((with_reducible conv => whnf); repeat ((with_reducible first | refine bT rfl ?_ | refine bF rfl ?_ | refine dT rfl ?_ | refine dF rfl ?_ | refine bF (nT rfl) ?_ | refine bT (nF rfl) ?_); (with_reducible conv => whnf))))
theorem p__law_right : PM fs__law_right w__law_right ["_law_draws_here", "_law_size", "_law_sides_here", "_law_kept", "_law_home", "_law_steps", "_law_later", "_law_counts", "_law_most", "_law_more", "_law_last", "_law_once", "_law_free", "_law_one", "_law_mate", "_law_count", "_law_spot"] := by
  rintro os0 ds Q ⟨k, n, l, rfl, ok, hb, hd, hk, q⟩
  show w__law_right _ [some (.ino (.lst os0)), some (.dat (.int n) false), some (.dat (arD l) false), none, none, none, none, none, none, none, none, none, none, none, none, none, none]
  have n1 := ok.n1
  have n2 := ok.n12
  have ll := ok.len
  have pl := pts_len n
  have sl : Sh 2 400 (arD l) := .ars n2 ok.rng ll
  have rl := sl.rep
  have kl := sl.okS
  subst_eqs
  constructor
  · exact rl
  subst_eqs
  refine ⟨l, rfl, by omega, fun fr1 => ?_⟩
  subst_eqs
  refine ⟨trivial, ?_⟩
  subst_eqs
  refine ⟨hd.flt, k, n, l, 30, rfl, by omega, n2, ll, by decide, by decide, hd, by omega, fun os1 ts fr hd1 lt lg => ?_⟩
  have lg0 : legal n (flp l fun _ => 0) ts := by rw [flp_zero]; exact lg
  obtain ⟨c, hc, e1, f1⟩ := legal_flp ok.rng (cons_zero l) lg0
  rw [flp_zero] at e1
  have fc : ∀ j, c j = ts.count j := fun j => by rw [f1 j]; omega
  have cb : ∀ j, c j ≤ 60 := fun j => by rw [fc j]; exact Nat.le_trans (List.count_le_length) lt
  rw [e1]
  subst_eqs
  refine ⟨⟨by decide, by decide, by omega, by omega⟩, ?_, ?_⟩
  · refine size_ok ?_
    rw [rng_pts, List.length_map, pl]
    omega
  refine lc_mapS (pts n) (fun k => (.int k, true)) (fun k => .int (c k)) dep0 (fun k hk KT KF kk => ?_) ?_ (rng_pts n)
  · subst_eqs
    refine ⟨size_ok (by rw [List.length_map, List.length_map]; omega), ?_⟩
    refine lc_filS ts (fun t => (.int t, fr)) (fun t => decide (t = k)) .int dep0 (fun t ht KT2 KF2 kk2 => ?_) ?_ (by rw [List.map_map]; rfl)
    · subst_eqs
      refine bB (fun z => ?_) fun z => ?_
      · rw [if_pos z] at kk2
        cases fr <;> exact kk2 _ (by rfl)
      · rw [if_neg (by rw [z]; exact Bool.false_ne_true)] at kk2
        exact kk2 _ (by rfl)
    subst_eqs
    have e : ((List.map D.int (List.filter (fun t => decide (t = k)) ts)).length : Int) = c k := by
      rw [List.length_map, fc k]
      unfold List.count
      rw [List.countP_eq_length_filter]
      congr 2
    rw [e]
    exact kk _ (by rfl)
  rw [← tab_D]
  subst_eqs
  refine ⟨tab n c, rfl, by rw [tab_len]; omega, fun m m1 m2 => ?_⟩
  obtain ⟨x, hx, ex_⟩ := List.mem_map.mp m1
  have xr := pts_mem.mp hx
  have cm : ∀ j, 1 ≤ j → j ≤ n → c j ≤ c x := fun j j1 j2 => by
    have := m2 _ (List.mem_map.mpr ⟨j, pts_mem.mpr ⟨j1, j2⟩, rfl⟩)
    omega
  have cx := cb x
  subst ex_
  subst_eqs
  refine ⟨trivial, ?_⟩
  subst_eqs
  refine ⟨hd1.flt, _, rfl, hd1, by omega, fun os2 v hd2 => ?_⟩
  subst_eqs
  refine ⟨(by decide : (0 : Int) < 2), ?_⟩
  have bv := Bd.mod v (A := 2) (by omega)
  unfold Bd at bv
  obtain ⟨M, hM⟩ : ∃ M : Nat, (M : Int) = (c x : Int) + v % 2 := ⟨((c x : Int) + v % 2).toNat, by omega⟩
  subst_eqs
  rw [← hM]
  subst_eqs
  refine ⟨trivial, ?_⟩
  subst_eqs
  refine ⟨hd2.flt, _, n, l, c, M, rfl, ok, hb, hc, fun j j1 j2 => by have := cm j j1 j2; omega, by omega, hd2, by omega, fun os3 us fr3 hd3 lg3 ct3 ul => ?_⟩
  exact right_behind (f3 := true) (f4 := fr1) (f5 := fr) (f6 := fr) (f7 := true) (f8 := true) (f9 := fr3) (f10 := fr3) ok hb hc fc lt lg e1 (by omega) lg3 ct3 hd3 (by omega) fun os4 h => q os4 (h.up (by omega))
end Q

/-! S, part 12: the law. -/
namespace Q
open PySem L2 Y
-- the head of a wp, unfolded, through tests that are told
local macro_rules | `(tactic| subst_eqs) => `(tactic| ((with_reducible conv => whnf); repeat ((with_reducible first | refine bT rfl ?_ | refine bF rfl ?_ | refine dT rfl ?_ | refine dF rfl ?_ | refine bF (nT rfl) ?_ | refine bT (nF rfl) ?_); (with_reducible conv => whnf))))
abbrev path12 : Ar := [(1, 2), (2, 3), (3, 4), (4, 5), (5, 6), (6, 7), (7, 8), (8, 9), (9, 10), (10, 11), (11, 12), (1, 12)]
theorem okp : Ok 12 path12 := ⟨by decide +kernel, by decide +kernel, by decide +kernel, by unfold inR; decide, by decide +kernel, fun k h1 h2 => by
  have e : k = 1 ∨ k = 2 ∨ k = 3 ∨ k = 4 ∨ k = 5 ∨ k = 6 ∨ k = 7 ∨ k = 8 ∨ k = 9 ∨ k = 10 ∨ k = 11 ∨ k = 12 := by omega
  have r2 : Rch path12 1 2 := .step (.refl _) (.inl (by decide +kernel))
  have r3 : Rch path12 1 3 := .step r2 (.inl (by decide +kernel))
  have r4 : Rch path12 1 4 := .step r3 (.inl (by decide +kernel))
  have r5 : Rch path12 1 5 := .step r4 (.inl (by decide +kernel))
  have r6 : Rch path12 1 6 := .step r5 (.inl (by decide +kernel))
  have r7 : Rch path12 1 7 := .step r6 (.inl (by decide +kernel))
  have r8 : Rch path12 1 8 := .step r7 (.inl (by decide +kernel))
  have r9 : Rch path12 1 9 := .step r8 (.inl (by decide +kernel))
  have r10 : Rch path12 1 10 := .step r9 (.inl (by decide +kernel))
  have r11 : Rch path12 1 11 := .step r10 (.inl (by decide +kernel))
  have r12 : Rch path12 1 12 := .step r11 (.inl (by decide +kernel))
  rcases e with rfl | rfl | rfl | rfl | rfl | rfl | rfl | rfl | rfl | rfl | rfl | rfl
  · exact .refl _
  all_goals assumption⟩
abbrev tri3 : Ar := [(1, 2), (1, 3), (2, 3)]
theorem ok3 : Ok 3 tri3 := ⟨by decide +kernel, by decide +kernel, by decide +kernel, by unfold inR; decide, by decide +kernel, fun k h1 h2 => by
  have e : k = 1 ∨ k = 2 ∨ k = 3 := by omega
  have r2 : Rch tri3 1 2 := .step (.refl _) (.inl (by decide +kernel))
  have r3 : Rch tri3 1 3 := .step (.refl _) (.inl (by decide +kernel))
  rcases e with rfl | rfl | rfl
  · exact .refl _
  all_goals assumption⟩
theorem ok1 : Ok 1 [] := ⟨by decide +kernel, by decide +kernel, by decide +kernel, by unfold inR; decide, by decide +kernel, fun k h1 h2 => by
  have e : k = 1 := by omega
  subst e
  exact .refl _⟩
@[reducible] def w_lawT11 : WS := wSeq (wSet 2 (wOp kAdd (wLc (wItR2 (wC (.int 1)) (wC (.int 12))) (wName 7) (wYes) (wLst (wCons (wVar 7) (wCons (wOp kAdd (wVar 7) (wC (.int 1))) (wNil)))) [7]) (wLst (wCons (wLst (wCons (wC (.int 1)) (wCons (wC (.int 12)) (wNil)))) (wNil))))) (wSeq (wIfS (wOr (wNot (wTst (wCallMN fs__law_right (wCallN fs__law_draws (wCons (wC (.int 0)) (wNil))) (wCons (wC (.int 12)) (wCons (wVar 2) (wNil)))))) (wNot (wTst (wCallMN fs__law_again_right (wCallN fs__law_draws (wCons (wC (.int 1)) (wNil))) (wCons (wC (.int 12)) (wCons (wVar 2) (wNil))))))) (wRet (wC (.bl false))) (wNext)) (wRet (wAndV (wCallMN fs__law_right (wCallN fs__law_draws (wCons (wC (.int 0)) (wNil))) (wCons (wC (.int 1)) (wCons (wLst (wNil)) (wNil)))) (wCallMN fs__law_right (wCallN fs__law_draws (wCons (wC (.int 0)) (wNil))) (wCons (wC (.int 3)) (wCons (wLst (wCons (wLst (wCons (wC (.int 1)) (wCons (wC (.int 2)) (wNil)))) (wCons (wLst (wCons (wC (.int 1)) (wCons (wC (.int 3)) (wNil)))) (wCons (wLst (wCons (wC (.int 2)) (wCons (wC (.int 3)) (wNil)))) (wNil))))) (wNil)))))))
theorem law_tail11 (a0 a1 a2 a3 a4 a5 a6 : Option Sl) : w_lawT11 { nx := fun _ => False, rt := fun d _ _ => d = .bl true } [a0, a1, a2, a3, a4, a5, a6, none] := by
  subst_eqs
  have sz : ∀ {α : Type} (l : List α), l.length ≤ 20 → l.length ≤ sizeLine := fun l h => size_ok (by omega)
  refine ⟨by decide, sz _ (by decide), ?_⟩
  refine lc_mapS [1, 2, 3, 4, 5, 6, 7, 8, 9, 10, 11] (fun (k : Int) => (.int k, true)) (fun k => .lst [.int k, .int (k + 1)]) dep0 (fun k hk KT KF kk => ?_) ?_ rfl
  · subst_eqs
    refine ⟨sz _ (by show 2 ≤ 20; decide), ?_⟩
    exact kk _ (by rfl)
  subst_eqs
  repeat (refine ⟨sz _ (by decide), ?_⟩; subst_eqs)
  refine ⟨size_ok (by decide), ?_⟩
  rw [show List.map (fun k => D.lst [D.int k, D.int (k + 1)]) [1, 2, 3, 4, 5, 6, 7, 8, 9, 10, 11] ++ List.map (fun x : D × Bool => x.1) [(D.lst (List.map (fun x : D × Bool => x.1) [(D.int 1, true), (D.int 12, true)]), frs' [(D.int 1, true), (D.int 12, true)])] = path12.map prD from rfl]
  subst_eqs
  have bp : brd 12 path12 = [] := by decide +kernel
  refine ⟨0, rfl, fun os1 dr1 => ?_⟩
  refine ⟨os1, rfl, rfl, dr1.flt, ?_⟩
  subst_eqs
  refine ⟨dr1.flt, ?_⟩
  subst_eqs
  refine ⟨0, 12, path12, rfl, okp, bp, dr1, by decide, fun os2 _ => ?_⟩
  subst_eqs
  refine ⟨1, rfl, fun os3 dr3 => ?_⟩
  refine ⟨os3, rfl, rfl, dr3.flt, ?_⟩
  subst_eqs
  refine ⟨dr3.flt, ?_⟩
  subst_eqs
  refine ⟨0, 12, path12, rfl, okp, bp, dr3, by decide, fun os4 _ => ?_⟩
  subst_eqs
  refine ⟨0, rfl, fun os5 dr5 => ?_⟩
  refine ⟨os5, rfl, rfl, dr5.flt, ?_⟩
  subst_eqs
  refine ⟨dr5.flt, ?_⟩
  subst_eqs
  repeat (refine ⟨sz _ (by decide), ?_⟩; subst_eqs)
  refine ⟨0, 1, [], rfl, ok1, by decide +kernel, dr5, by decide, fun os6 _ => ?_⟩
  subst_eqs
  refine ⟨0, rfl, fun os7 dr7 => ?_⟩
  refine ⟨os7, rfl, rfl, dr7.flt, ?_⟩
  subst_eqs
  refine ⟨dr7.flt, ?_⟩
  subst_eqs
  repeat (refine ⟨sz _ (by decide), ?_⟩; subst_eqs)
  refine ⟨0, 3, tri3, rfl, ok3, by decide +kernel, dr7, by decide, fun os8 _ => ?_⟩
  subst_eqs
theorem p_law : ∀ ns : List Int, ns.length ≤ 63 → w_law { nx := fun _ => False, rt := fun d _ _ => d = .bl true } (startL ["_law_script", "_law_draws_here", "_law_ring", "_law_most", "_law_size", "_law_sides_here", "_law_cell", "_law_spot"] ns) := by
  intro ns hn
  show w_law _ [some (.scr ns), none, none, none, none, none, none, none]
  obtain ⟨cs, hc, ec⟩ := cut_pre ns
  subst_eqs
  rw [ec]
  refine ⟨size_ok (by simp), ?_⟩
  subst_eqs
  refine ⟨size_ok (by rw [List.length_map]; show _ + 1 ≤ _; omega), ?_⟩
  subst_eqs
  refine ⟨rfl, size_ok (by rw [List.length_map, List.length_append, List.length_map]; show _ + 1 ≤ _; omega), ?_⟩
  refine ln_all (cs ++ [0]) (fun c => (.int c, true)) (Dr 0) (fun c hcc KK kk => ?_) (fun oss ho => ?_) (by
    show List.map (fun d => (d, true)) (List.map D.int cs ++ [D.int 0]) = _
    rw [List.map_append, List.map_append, List.map_map]
    rfl)
  · subst_eqs
    refine ⟨c, rfl, fun os dr => ?_⟩
    exact ⟨os, rfl, rfl, dr.flt, dr.flt, kk os dr⟩
  refine fn_all (Dr 0) (fun Γ => ∃ a0 a1 a2 a3 a4 a5 a6, Γ = [a0, a1, a2, a3, a4, a5, a6, none]) ?_ ?_ oss _ ho ⟨_, _, _, _, _, _, _, rfl⟩
  · rintro os Γ N B dr ⟨a0, a1, a2, a3, a4, a5, a6, rfl⟩ hN
    subst_eqs
    refine ⟨size_ok (by simp), ?_⟩
    subst_eqs
    refine ⟨rfl, ?_⟩
    refine for_pre [12, 5] (fun (m : Int) => (.int m, true)) (fun pre Γ => ∃ os' b0 b2 b3 b4 b5 b6, Γ = [b0, some (.ino (.lst os')), b2, b3, b4, b5, b6, none] ∧ Dr (10000 * pre.length) os') ⟨os, _, _, _, _, _, _, rfl, dr⟩ ?_ ?_ rfl
    · rintro pre m r Γ N2 e ⟨os2, b0, b2, b3, b4, b5, b6, rfl, dr2⟩ hN2
      have hm : 1 ≤ m ∧ m ≤ 12 := by
        have h : m ∈ ([12, 5] : List Int) := by rw [e]; simp
        simp at h
        omega
      have hl : pre.length ≤ 1 := by
        have := congrArg List.length e
        rw [List.length_append, List.length_cons] at this
        simp at this
        omega
      subst_eqs
      refine ⟨trivial, ?_⟩
      subst_eqs
      refine ⟨dr2.flt, _, rfl, dr2, by omega, fun os3 v hd3 => ?_⟩
      subst_eqs
      refine ⟨(by omega : (0 : Int) < m), ?_⟩
      have bv := Bd.mod v (A := m) (by omega)
      unfold Bd at bv
      subst_eqs
      refine ⟨trivial, ?_⟩
      subst_eqs
      refine ⟨trivial, ?_⟩
      subst_eqs
      refine ⟨hd3.flt, _, 1 + v % m, 33, rfl, by omega, by omega, by decide, by decide, hd3, by omega, fun os4 l fr hd4 bl => ?_⟩
      subst_eqs
      refine ⟨hd4.flt, _, 1 + v % m, l, rfl, by omega, by omega, bl, hd4, by omega, fun os5 l2 fr2 hd5 ok => ?_⟩
      have o2 := ok.len
      subst_eqs
      refine ⟨1 + v % m, l2, rfl, by omega, by omega, ok.len, ok.rng, ?_⟩
      subst_eqs
      refine ⟨size_ok (by simp), ?_⟩
      subst_eqs
      refine ⟨⟨okD_in _, okD_in []⟩, ?_⟩
      rw [show (pd (D.lst ((brd (1 + v % m) l2).map D.int))).eqv (pd (D.lst (List.map (fun x : D × Bool => x.1) []))) = decide (brd (1 + v % m) l2 = []) from eqv_nil _]
      by_cases z : brd (1 + v % m) l2 = []
      · refine bT (decide_eq_true z) ?_
        subst_eqs
        refine ⟨trivial, ?_⟩
        subst_eqs
        refine ⟨hd5.flt, _, 1 + v % m, l2, rfl, ok, z, hd5, by omega, fun os6 hd6 => ?_⟩
        subst_eqs
        refine ⟨trivial, ?_⟩
        subst_eqs
        refine ⟨hd6.flt, _, 1 + v % m, l2, rfl, ok, z, hd6, by omega, fun os7 hd7 => ?_⟩
        subst_eqs
        exact hN2 _ ⟨os7, _, _, _, _, _, _, rfl, hd7.up (by rw [List.length_append, List.length_singleton]; omega)⟩
      · refine bF (decide_eq_false z) ?_
        subst_eqs
        exact hN2 _ ⟨os5, _, _, _, _, _, _, rfl, hd5.up (by rw [List.length_append, List.length_singleton]; omega)⟩
    · rintro Γ ⟨os2, b0, b2, b3, b4, b5, b6, rfl, dr2⟩
      exact hN _ ⟨_, _, _, _, _, _, _, rfl⟩
  rintro Γ ⟨a0, a1, a2, a3, a4, a5, a6, rfl⟩
  exact law_tail11 a0 a1 a2 a3 a4 a5 a6
end Q

namespace G
open PySem PySem.Spec PyProof.Rows L2 Y Q
def top (i : Nat) : Stmt := PySem.Challenge.pw_yieldturns_k11_whole_all_once.main.body.getD i (.Pass ⟨0, 0, 0, 0⟩)
theorem kbndN {K : PySem.W.Frag} {x qual : Str} {params : Arguments} {body : List Stmt} {scope : Scope} {f : Addr} {fd : FuncData} {ps ks : List Str} {ix : List Nat} (F : FunD K x qual params body scope [] [] f fd)
    (h : ∀ (kV doc pm : Value) (an : Option Addr) (cdv ct : Value) (ws : List Value), ws.length = ks.length → bindArgs (PySem.W.fnOf x qual params body scope .none kV doc pm an cdv ct) ⟨[], ks.zip ws⟩ = pure (ps.zip (pmG ix ws))) : KBnd K fd ps ks ix := by
  obtain ⟨oc, od, dV, kV, doc, pm, an, cdv, ct, osl, rfl, lk, hcd, hD, hK⟩ := F.ex
  rcases hD with ⟨_, rfl⟩ | ⟨e, _⟩
  · exact fun s ws _ hl => .of_eq (h kV doc pm an cdv ct ws hl)
  · exact absurd rfl e
abbrev st__law_draws : Stmt := top 37
theorem sc__law_draws : FnScope ["_law_cell"] ["_law_cell"] (defScope st__law_draws) := ⟨rfl, rfl, rfl, by decide +kernel, rfl, by decide +kernel, by decide +kernel⟩
theorem d__law_draws {P : Program} {w : World} {K : PySem.W.Frag} {mg : Str → Option Value} {base : Heap} {f : Addr} {cdv : Value} {A : Around} {outer : List Env} {s : Shared} {H : Hp} {E : XK} (B : FreeB mg) (hg : (A.deeper (envOfC "_law_draws" (defScope st__law_draws) s.heap.objs.size f cdv)).guards = some []) (hr : Room 0 (A.deeper (envOfC "_law_draws" (defScope st__law_draws) s.heap.objs.size f cdv))) :
    PWSs (bX P w K mg base ["_law_cell"] "_law_draws" (defScope st__law_draws) f cdv A outer s H E) E (defBody st__law_draws) w__law_draws :=
  pws_one (pws_ret (pw_lst (pwa_cons (pw_bin o_mod (pw_t1 o_int B.int rfl (pv_name 0)) (pw_bin o_pow (pw_bin o_pow (pw_bin o_pow (pw_int) (pw_int)) (pw_int)) (pw_int))) (pwa_cons (pw_int) (pwa_cons (pw_cmp o_ge (pw_var 0) (pw_bin o_pow (pw_int) (pw_int))) (pwa_nil))))))
theorem g__law_draws {P : Program} {w : World} {K : PySem.W.Frag} {mg : Str → Option Value} {base : Heap} {fa : Addr} {fd : FuncData} (B : FreeB mg)  (F : FunD K "_law_draws" "_law_draws" (defArgs st__law_draws) (defBody st__law_draws) (defScope st__law_draws) [] [] fa fd) : FnG P w K mg base 1 fa fd ["_law_cell"] (spF mg fs__law_draws) :=
  fn_pure F sc__law_draws (fun ds Q ex h => by obtain ⟨_, rfl, _⟩ := h; rfl) (fun cdv A outer s H E hg hr => d__law_draws B  hg hr) p__law_draws
theorem b__law_draws {K : PySem.W.Frag} {fa : Addr} {fd : FuncData} (F : FunD K "_law_draws" "_law_draws" (defArgs st__law_draws) (defBody st__law_draws) (defScope st__law_draws) [] [] fa fd) : Binds K fd ["_law_cell"] [] := F.bindsN fun _ _ _ _ _ _ us hl => match us, hl with | [_], _ => rfl
theorem c__law_draws {P : Program} {w : World} {K : PySem.W.Frag} {mg : Str → Option Value} {base : Heap} {fa : Addr} {fd : FuncData} (B : FreeB mg)  (F : FunD K "_law_draws" "_law_draws" (defArgs st__law_draws) (defBody st__law_draws) (defScope st__law_draws) [] [] fa fd) (m : mg "_law_draws" = some (.ref fa)) : CalD P w K mg base 1 "_law_draws" ["_law_cell"] (spF mg fs__law_draws) := ⟨fa, fd, g__law_draws B  F, m, F.kp, b__law_draws F⟩
abbrev st__law_next : Stmt := top 38
theorem sc__law_next : FnScope ["_law_draws_here", "_law_k", "_law_drawn"] ["_law_draws_here"] (defScope st__law_next) := ⟨rfl, rfl, rfl, by decide +kernel, rfl, by decide +kernel, by decide +kernel⟩
theorem d__law_next {P : Program} {w : World} {K : PySem.W.Frag} {mg : Str → Option Value} {base : Heap} {f : Addr} {cdv : Value} {A : Around} {outer : List Env} {s : Shared} {H : Hp} {E : XK} (B : FreeB mg) (hg : (A.deeper (envOfC "_law_next" (defScope st__law_next) s.heap.objs.size f cdv)).guards = some []) (hr : Room 0 (A.deeper (envOfC "_law_next" (defScope st__law_next) s.heap.objs.size f cdv))) :
    PWSs (bX P w K mg base ["_law_draws_here", "_law_k", "_law_drawn"] "_law_next" (defScope st__law_next) f cdv A outer s H E) E (defBody st__law_next) w__law_next :=
  pws_cons (pws_put 0 (u1 hr) (pw_bin o_add (pw_ix (u1 hr) (pv_name 0) (pw_int)) (pw_int)) (pw_int)) (pws_cons (pws_set 1 (pw_ix (u1 hr) (pv_name 0) (pw_int)) sc__law_next.nd) (pws_cons (pws_if (pwt_val (pw_ix (u1 hr) (pv_name 0) (pw_int))) (pws_cons (pws_set 2 (pw_bin o_mod (pw_t1 o_int B.int rfl (pv_of (pw_ix (u1 hr) (pv_name 0) (pw_int)))) (pw_bin o_pow (pw_int) (pw_int))) sc__law_next.nd) (pws_cons (pws_put 0 (u1 hr) (pw_bin o_fdiv (pw_ix (u1 hr) (pv_name 0) (pw_int)) (pw_bin o_pow (pw_int) (pw_int))) (pw_int)) (pws_one (pws_ret (pw_var 2))))) (pws_nil)) (pws_cons (pws_set 2 (pw_bin o_mod (pw_t1 o_int B.int rfl (pv_of (pw_bin o_mul (pw_bin o_add (pw_bin o_add (pw_bin o_mod (pw_t1 o_int B.int rfl (pv_of (pw_ix (u1 hr) (pv_name 0) (pw_int)))) (pw_int)) (pw_bin o_mul (pw_bin o_mul (pw_var 1) (pw_var 1)) (pw_int))) (pw_var 1)) (pw_int)))) (pw_int)) sc__law_next.nd) (pws_cons (pws_set 2 (pw_bin o_mod (pw_t1 o_int B.int rfl (pv_of (pw_bin o_mul (pw_var 2) (pw_var 2)))) (pw_int)) sc__law_next.nd) (pws_one (pws_ret (pw_bin o_fdiv (pw_bin o_mod (pw_t1 o_int B.int rfl (pv_of (pw_bin o_mul (pw_var 2) (pw_bin o_add (pw_var 2) (pw_int))))) (pw_int)) (pw_int))))))))
theorem g__law_next {P : Program} {w : World} {K : PySem.W.Frag} {mg : Str → Option Value} {base : Heap} {fa : Addr} {fd : FuncData} (B : FreeB mg)  (F : FunD K "_law_next" "_law_next" (defArgs st__law_next) (defBody st__law_next) (defScope st__law_next) [] [] fa fd) : FnG P w K mg base 1 fa fd ["_law_draws_here"] (spM fs__law_next) :=
  fn_pureM F sc__law_next (fun os ds Q h => by obtain ⟨_, rfl, _⟩ := h; rfl) (fun cdv A outer s H E hg hr => d__law_next B  hg hr) p__law_next
theorem b__law_next {K : PySem.W.Frag} {fa : Addr} {fd : FuncData} (F : FunD K "_law_next" "_law_next" (defArgs st__law_next) (defBody st__law_next) (defScope st__law_next) [] [] fa fd) : Binds K fd ["_law_draws_here"] [] := F.bindsN fun _ _ _ _ _ _ us hl => match us, hl with | [_], _ => rfl
theorem c__law_next {P : Program} {w : World} {K : PySem.W.Frag} {mg : Str → Option Value} {base : Heap} {fa : Addr} {fd : FuncData} (B : FreeB mg)  (F : FunD K "_law_next" "_law_next" (defArgs st__law_next) (defBody st__law_next) (defScope st__law_next) [] [] fa fd) (m : mg "_law_next" = some (.ref fa)) : CalD P w K mg base 1 "_law_next" ["_law_draws_here"] (spM fs__law_next) := ⟨fa, fd, g__law_next B  F, m, F.kp, b__law_next F⟩
abbrev st__law_shuffled : Stmt := top 39
theorem sc__law_shuffled : FnScope ["_law_draws_here", "_law_things", "_law_left", "_law_told"] ["_law_draws_here", "_law_things"] (defScope st__law_shuffled) := ⟨rfl, rfl, rfl, by decide +kernel, rfl, by decide +kernel, by decide +kernel⟩
theorem d__law_shuffled {P : Program} {w : World} {K : PySem.W.Frag} {mg : Str → Option Value} {base : Heap} {f : Addr} {cdv : Value} {A : Around} {outer : List Env} {s : Shared} {H : Hp} {E : XK} (B : FreeB mg) (C__law_next : CalD P w K mg base 1 "_law_next" ["_law_draws_here"] (spM fs__law_next)) (hg : (A.deeper (envOfC "_law_shuffled" (defScope st__law_shuffled) s.heap.objs.size f cdv)).guards = some []) (hr : Room 1 (A.deeper (envOfC "_law_shuffled" (defScope st__law_shuffled) s.heap.objs.size f cdv))) :
    PWSs (bX P w K mg base ["_law_draws_here", "_law_things", "_law_left", "_law_told"] "_law_shuffled" (defScope st__law_shuffled) f cdv A outer s H E) E (defBody st__law_shuffled) w__law_shuffled :=
  pws_cons (pws_setO 2 (pn_list B.list (pv_name 1) rfl) sc__law_shuffled.nd) (pws_cons (pws_setO 3 (pn_lst (pwa_nil)) sc__law_shuffled.nd) (pws_cons (pws_while own_fn (pwt_neV (u64 hr) (pv_name 2) (pw_lst (pwa_nil))) (pws_one (pws_expr (pw_app 3 (pw_popAt 2 (pw_bin o_mod (pw_t1 o_int B.int rfl (pv_of (pw_cm 0 C__law_next hg hr pass_fn (pwa_nil)))) (pw_b1 o_len B.len rfl (pv_name 2)))))))) (pws_one (pws_ret (pw_var 3)))))
theorem g__law_shuffled {P : Program} {w : World} {K : PySem.W.Frag} {mg : Str → Option Value} {base : Heap} {fa : Addr} {fd : FuncData} (B : FreeB mg) (C__law_next : CalD P w K mg base 1 "_law_next" ["_law_draws_here"] (spM fs__law_next)) (F : FunD K "_law_shuffled" "_law_shuffled" (defArgs st__law_shuffled) (defBody st__law_shuffled) (defScope st__law_shuffled) [] [] fa fd) : FnG P w K mg base 2 fa fd ["_law_draws_here", "_law_things"] (spM fs__law_shuffled) :=
  fn_pureM F sc__law_shuffled (fun os ds Q h => by obtain ⟨_, _, rfl, _⟩ := h; rfl) (fun cdv A outer s H E hg hr => d__law_shuffled B C__law_next hg hr) p__law_shuffled
theorem b__law_shuffled {K : PySem.W.Frag} {fa : Addr} {fd : FuncData} (F : FunD K "_law_shuffled" "_law_shuffled" (defArgs st__law_shuffled) (defBody st__law_shuffled) (defScope st__law_shuffled) [] [] fa fd) : Binds K fd ["_law_draws_here", "_law_things"] [] := F.bindsN fun _ _ _ _ _ _ us hl => match us, hl with | [_, _], _ => rfl
theorem c__law_shuffled {P : Program} {w : World} {K : PySem.W.Frag} {mg : Str → Option Value} {base : Heap} {fa : Addr} {fd : FuncData} (B : FreeB mg) (C__law_next : CalD P w K mg base 1 "_law_next" ["_law_draws_here"] (spM fs__law_next)) (F : FunD K "_law_shuffled" "_law_shuffled" (defArgs st__law_shuffled) (defBody st__law_shuffled) (defScope st__law_shuffled) [] [] fa fd) (m : mg "_law_shuffled" = some (.ref fa)) : CalD P w K mg base 2 "_law_shuffled" ["_law_draws_here", "_law_things"] (spM fs__law_shuffled) := ⟨fa, fd, g__law_shuffled B C__law_next F, m, F.kp, b__law_shuffled F⟩
abbrev st__law_bars : Stmt := top 40
theorem sc__law_bars : FnScope ["_law_draws_here", "_law_size", "_law_more", "_law_names", "_law_kind", "_law_told", "_law_at", "_law_step", "_law_one", "_law_two"] ["_law_draws_here", "_law_size", "_law_more"] (defScope st__law_bars) := ⟨rfl, rfl, rfl, by decide +kernel, rfl, by decide +kernel, by decide +kernel⟩
theorem d__law_bars {P : Program} {w : World} {K : PySem.W.Frag} {mg : Str → Option Value} {base : Heap} {f : Addr} {cdv : Value} {A : Around} {outer : List Env} {s : Shared} {H : Hp} {E : XK} (B : FreeB mg) (C__law_shuffled : CalD P w K mg base 2 "_law_shuffled" ["_law_draws_here", "_law_things"] (spM fs__law_shuffled)) (C__law_next : CalD P w K mg base 1 "_law_next" ["_law_draws_here"] (spM fs__law_next)) (hg : (A.deeper (envOfC "_law_bars" (defScope st__law_bars) s.heap.objs.size f cdv)).guards = some []) (hr : Room 2 (A.deeper (envOfC "_law_bars" (defScope st__law_bars) s.heap.objs.size f cdv))) :
    PWSs (bX P w K mg base ["_law_draws_here", "_law_size", "_law_more", "_law_names", "_law_kind", "_law_told", "_law_at", "_law_step", "_law_one", "_law_two"] "_law_bars" (defScope st__law_bars) f cdv A outer s H E) E (defBody st__law_bars) w__law_bars :=
  pws_cons (pws_set 3 (pw_cm 0 C__law_shuffled hg hr pass_fn (pwa_cons (pw_listRg2 rfl B.list B.range (pw_int) (pw_bin o_add (pw_var 1) (pw_int))) (pwa_nil))) sc__law_bars.nd) (pws_cons (pws_set 4 (pw_bin o_mod (pw_t1 o_int B.int rfl (pv_of (pw_cm 0 C__law_next hg hr pass_fn (pwa_nil)))) (pw_int)) sc__law_bars.nd) (pws_cons (pws_setO 5 (pn_lst (pwa_nil)) sc__law_bars.nd) (pws_cons (pws_for own_fn rfl (pi_rng2 B.range (pw_int) (pw_var 1)) (pg_nm 6 sc__law_bars.nd (by first | exact Or.inl rfl | exact Or.inr rfl)) (pws_one (pws_expr (pw_app 5 (pw_lst (pwa_cons (pw_ix (u1 hr) (pv_name 3) (pw_var 6)) (pwa_cons (pw_ix (u1 hr) (pv_name 3) (pw_ix (u1 hr) (pv_of (pw_lst (pwa_cons (pw_bin o_mod (pw_t1 o_int B.int rfl (pv_of (pw_cm 0 C__law_next hg hr pass_fn (pwa_nil)))) (pw_var 6)) (pwa_cons (pw_bin o_sub (pw_var 6) (pw_int)) (pwa_cons (pw_int) (pwa_cons (pw_bin o_fdiv (pw_bin o_sub (pw_var 6) (pw_int)) (pw_int)) (pwa_nil))))))) (pw_var 4))) (pwa_nil)))))))) (pws_cons (pws_for own_fn rfl (pi_rng1 B.range (pw_bin o_mod (pw_t1 o_int B.int rfl (pv_of (pw_cm 0 C__law_next hg hr pass_fn (pwa_nil)))) (pw_b2 (o_min2 rfl) B.min rfl (pw_var 2) (pw_ix (u1 hr) (pv_of (pw_lst (pwa_cons (pw_int) (pwa_cons (pw_int) (pwa_cons (pw_int) (pwa_cons (pw_int) (pwa_nil))))))) (pw_bin o_mod (pw_t1 o_int B.int rfl (pv_of (pw_cm 0 C__law_next hg hr pass_fn (pwa_nil)))) (pw_int)))))) (pg_nm 7 sc__law_bars.nd (by first | exact Or.inl rfl | exact Or.inr rfl)) (pws_cons (pws_par 8 9 (pm_dat (pw_bin o_add (pw_int) (pw_bin o_mod (pw_t1 o_int B.int rfl (pv_of (pw_cm 0 C__law_next hg hr pass_fn (pwa_nil)))) (pw_var 1)))) (pm_dat (pw_bin o_add (pw_int) (pw_bin o_mod (pw_t1 o_int B.int rfl (pv_of (pw_cm 0 C__law_next hg hr pass_fn (pwa_nil)))) (pw_var 1)))) (by decide) rfl sc__law_bars.nd rfl) (pws_one (pws_if (pwt_of (pww_and (pwt_cmp (o_ne (u64 hr)) (pw_var 8) (pw_var 9)) (pww_and (pwt_notin (u65 hr) (pw_lst (pwa_cons (pw_var 8) (pwa_cons (pw_var 9) (pwa_nil)))) (pv_name 5)) (pww_and (pwt_notin (u65 hr) (pw_lst (pwa_cons (pw_var 9) (pwa_cons (pw_var 8) (pwa_nil)))) (pv_name 5)) (pww_and1 (pwt_cmp o_lt (pw_b1 o_len B.len rfl (pv_name 5)) (pw_int))))))) (pws_one (pws_expr (pw_app 5 (pw_lst (pwa_cons (pw_var 8) (pwa_cons (pw_var 9) (pwa_nil))))))) (pws_nil))))) (pws_one (pws_ret (pw_cm 0 C__law_shuffled hg hr pass_fn (pwa_cons (pw_var 5) (pwa_nil)))))))))
theorem g__law_bars {P : Program} {w : World} {K : PySem.W.Frag} {mg : Str → Option Value} {base : Heap} {fa : Addr} {fd : FuncData} (B : FreeB mg) (C__law_shuffled : CalD P w K mg base 2 "_law_shuffled" ["_law_draws_here", "_law_things"] (spM fs__law_shuffled)) (C__law_next : CalD P w K mg base 1 "_law_next" ["_law_draws_here"] (spM fs__law_next)) (F : FunD K "_law_bars" "_law_bars" (defArgs st__law_bars) (defBody st__law_bars) (defScope st__law_bars) [] [] fa fd) : FnG P w K mg base 3 fa fd ["_law_draws_here", "_law_size", "_law_more"] (spM fs__law_bars) :=
  fn_pureM F sc__law_bars (fun os ds Q h => by obtain ⟨_, _, _, rfl, _⟩ := h; rfl) (fun cdv A outer s H E hg hr => d__law_bars B C__law_shuffled C__law_next hg hr) p__law_bars
theorem b__law_bars {K : PySem.W.Frag} {fa : Addr} {fd : FuncData} (F : FunD K "_law_bars" "_law_bars" (defArgs st__law_bars) (defBody st__law_bars) (defScope st__law_bars) [] [] fa fd) : Binds K fd ["_law_draws_here", "_law_size", "_law_more"] [] := F.bindsN fun _ _ _ _ _ _ us hl => match us, hl with | [_, _, _], _ => rfl
theorem c__law_bars {P : Program} {w : World} {K : PySem.W.Frag} {mg : Str → Option Value} {base : Heap} {fa : Addr} {fd : FuncData} (B : FreeB mg) (C__law_shuffled : CalD P w K mg base 2 "_law_shuffled" ["_law_draws_here", "_law_things"] (spM fs__law_shuffled)) (C__law_next : CalD P w K mg base 1 "_law_next" ["_law_draws_here"] (spM fs__law_next)) (F : FunD K "_law_bars" "_law_bars" (defArgs st__law_bars) (defBody st__law_bars) (defScope st__law_bars) [] [] fa fd) (m : mg "_law_bars" = some (.ref fa)) : CalD P w K mg base 3 "_law_bars" ["_law_draws_here", "_law_size", "_law_more"] (spM fs__law_bars) := ⟨fa, fd, g__law_bars B C__law_shuffled C__law_next F, m, F.kp, b__law_bars F⟩
abbrev st__law_sides : Stmt := top 41
theorem sc__law_sides : FnScope ["_law_draws_here", "_law_size", "_law_bars_here", "_law_ranks", "_law_one", "_law_two"] ["_law_draws_here", "_law_size", "_law_bars_here"] (defScope st__law_sides) := ⟨rfl, rfl, rfl, by decide +kernel, rfl, by decide +kernel, by decide +kernel⟩
theorem d__law_sides {P : Program} {w : World} {K : PySem.W.Frag} {mg : Str → Option Value} {base : Heap} {f : Addr} {cdv : Value} {A : Around} {outer : List Env} {s : Shared} {H : Hp} {E : XK} (B : FreeB mg) (C__law_next : CalD P w K mg base 1 "_law_next" ["_law_draws_here"] (spM fs__law_next)) (C__law_shuffled : CalD P w K mg base 2 "_law_shuffled" ["_law_draws_here", "_law_things"] (spM fs__law_shuffled)) (hg : (A.deeper (envOfC "_law_sides" (defScope st__law_sides) s.heap.objs.size f cdv)).guards = some []) (hr : Room 2 (A.deeper (envOfC "_law_sides" (defScope st__law_sides) s.heap.objs.size f cdv))) :
    PWSs (bX P w K mg base ["_law_draws_here", "_law_size", "_law_bars_here", "_law_ranks", "_law_one", "_law_two"] "_law_sides" (defScope st__law_sides) f cdv A outer s H E) E (defBody st__law_sides) w__law_sides :=
  pws_cons (pws_if (pwt_cmp (o_eq (u64 hr)) (pw_bin o_mod (pw_t1 o_int B.int rfl (pv_of (pw_cm 0 C__law_next hg hr pass_fn (pwa_nil)))) (pw_int)) (pw_int)) (pws_one (pws_ret (pw_lc (own := [("_law_one", 4), ("_law_two", 5)]) rfl sc__law_sides.nd (blkOk_by (by kernel_rfl)) (pi_lst (pv_name 2)) (fun _ _ _ _ _ => pg_tp (n := 2) rfl (pwg_cons (pg_nm 4 sc__law_sides.nd (by first | exact Or.inl rfl | exact Or.inr rfl)) (pwg_cons (pg_nm 5 sc__law_sides.nd (by first | exact Or.inl rfl | exact Or.inr rfl)) (pwg_nil))) (len_name (len_name (len_nil)))) (fun _ _ _ _ _ => pwts_nil) (fun _ _ _ _ _ => pw_slK (pv_of (pw_lst (pwa_cons (pw_var 4) (pwa_cons (pw_var 5) (pwa_nil))))) (pw_ix (u1 hr) (pv_of (pw_lst (pwa_cons (pw_int) (pwa_cons (pw_neg (pw_int)) (pwa_nil))))) (pw_bin o_mod (pw_t1 o_int B.int rfl (pv_of (pw_cm 0 C__law_next hg hr pass0 (pwa_nil)))) (pw_int)))) (by decide)))) (pws_nil)) (pws_cons (pws_set 3 (pw_cm 0 C__law_shuffled hg hr pass_fn (pwa_cons (pw_listRg1 rfl B.list B.range (pw_var 1)) (pwa_nil))) sc__law_sides.nd) (pws_one (pws_ret (pw_lc (own := [("_law_one", 4), ("_law_two", 5)]) rfl sc__law_sides.nd (blkOk_by (by kernel_rfl)) (pi_lst (pv_name 2)) (fun _ _ _ _ _ => pg_tp (n := 2) rfl (pwg_cons (pg_nm 4 sc__law_sides.nd (by first | exact Or.inl rfl | exact Or.inr rfl)) (pwg_cons (pg_nm 5 sc__law_sides.nd (by first | exact Or.inl rfl | exact Or.inr rfl)) (pwg_nil))) (len_name (len_name (len_nil)))) (fun _ _ _ _ _ => pwts_nil) (fun _ _ _ _ _ => pw_ifExp (pwt_cmp o_lt (pw_ix (u1 hr) (pv_name 3) (pw_bin o_sub (pw_var 4) (pw_int))) (pw_ix (u1 hr) (pv_name 3) (pw_bin o_sub (pw_var 5) (pw_int)))) (pw_lst (pwa_cons (pw_var 4) (pwa_cons (pw_var 5) (pwa_nil)))) (pw_lst (pwa_cons (pw_var 5) (pwa_cons (pw_var 4) (pwa_nil))))) (by decide)))))
theorem g__law_sides {P : Program} {w : World} {K : PySem.W.Frag} {mg : Str → Option Value} {base : Heap} {fa : Addr} {fd : FuncData} (B : FreeB mg) (C__law_next : CalD P w K mg base 1 "_law_next" ["_law_draws_here"] (spM fs__law_next)) (C__law_shuffled : CalD P w K mg base 2 "_law_shuffled" ["_law_draws_here", "_law_things"] (spM fs__law_shuffled)) (F : FunD K "_law_sides" "_law_sides" (defArgs st__law_sides) (defBody st__law_sides) (defScope st__law_sides) [] [] fa fd) : FnG P w K mg base 3 fa fd ["_law_draws_here", "_law_size", "_law_bars_here"] (spM fs__law_sides) :=
  fn_pureM F sc__law_sides (fun os ds Q h => by obtain ⟨_, _, _, rfl, _⟩ := h; rfl) (fun cdv A outer s H E hg hr => d__law_sides B C__law_next C__law_shuffled hg hr) p__law_sides
theorem b__law_sides {K : PySem.W.Frag} {fa : Addr} {fd : FuncData} (F : FunD K "_law_sides" "_law_sides" (defArgs st__law_sides) (defBody st__law_sides) (defScope st__law_sides) [] [] fa fd) : Binds K fd ["_law_draws_here", "_law_size", "_law_bars_here"] [] := F.bindsN fun _ _ _ _ _ _ us hl => match us, hl with | [_, _, _], _ => rfl
theorem c__law_sides {P : Program} {w : World} {K : PySem.W.Frag} {mg : Str → Option Value} {base : Heap} {fa : Addr} {fd : FuncData} (B : FreeB mg) (C__law_next : CalD P w K mg base 1 "_law_next" ["_law_draws_here"] (spM fs__law_next)) (C__law_shuffled : CalD P w K mg base 2 "_law_shuffled" ["_law_draws_here", "_law_things"] (spM fs__law_shuffled)) (F : FunD K "_law_sides" "_law_sides" (defArgs st__law_sides) (defBody st__law_sides) (defScope st__law_sides) [] [] fa fd) (m : mg "_law_sides" = some (.ref fa)) : CalD P w K mg base 3 "_law_sides" ["_law_draws_here", "_law_size", "_law_bars_here"] (spM fs__law_sides) := ⟨fa, fd, g__law_sides B C__law_next C__law_shuffled F, m, F.kp, b__law_sides F⟩
abbrev st__law_onward : Stmt := top 45
theorem sc__law_onward : FnScope ["_law_size", "_law_sides_here", "_law_spot", "_law_seen", "_law_step", "_law_tail", "_law_head"] ["_law_size", "_law_sides_here", "_law_spot"] (defScope st__law_onward) := ⟨rfl, rfl, rfl, by decide +kernel, rfl, by decide +kernel, by decide +kernel⟩
theorem d__law_onward {P : Program} {w : World} {K : PySem.W.Frag} {mg : Str → Option Value} {base : Heap} {f : Addr} {cdv : Value} {A : Around} {outer : List Env} {s : Shared} {H : Hp} {E : XK} (B : FreeB mg) (hg : (A.deeper (envOfC "_law_onward" (defScope st__law_onward) s.heap.objs.size f cdv)).guards = some []) (hr : Room 0 (A.deeper (envOfC "_law_onward" (defScope st__law_onward) s.heap.objs.size f cdv))) :
    PWSs (bX P w K mg base ["_law_size", "_law_sides_here", "_law_spot", "_law_seen", "_law_step", "_law_tail", "_law_head"] "_law_onward" (defScope st__law_onward) f cdv A outer s H E) E (defBody st__law_onward) w__law_onward :=
  pws_cons (pws_set 3 (pw_lc (own := [("_law_tail", 5), ("_law_head", 6)]) rfl sc__law_onward.nd (blkOk_by (by kernel_rfl)) (pi_lst (pv_name 1)) (fun _ _ _ _ _ => pg_tp (n := 2) rfl (pwg_cons (pg_nm 5 sc__law_onward.nd (by first | exact Or.inl rfl | exact Or.inr rfl)) (pwg_cons (pg_nm 6 sc__law_onward.nd (by first | exact Or.inl rfl | exact Or.inr rfl)) (pwg_nil))) (len_name (len_name (len_nil)))) (fun _ _ _ _ _ => pwts_one (pwt_cmp (o_eq (u64 hr)) (pw_var 5) (pw_var 2))) (fun _ _ _ _ _ => pw_var 6) (by decide)) sc__law_onward.nd) (pws_cons (pws_for own_fn rfl (pi_rng1 B.range (pw_var 0)) (pg_nm 4 sc__law_onward.nd (by first | exact Or.inl rfl | exact Or.inr rfl)) (pws_one (pws_set 3 (pw_sortSet rfl B.sorted B.set rfl rfl (pw_bin o_add (pw_var 3) (pw_lc (own := [("_law_tail", 5), ("_law_head", 6)]) rfl sc__law_onward.nd (blkOk_by (by kernel_rfl)) (pi_lst (pv_name 1)) (fun _ _ _ _ _ => pg_tp (n := 2) rfl (pwg_cons (pg_nm 5 sc__law_onward.nd (by first | exact Or.inl rfl | exact Or.inr rfl)) (pwg_cons (pg_nm 6 sc__law_onward.nd (by first | exact Or.inl rfl | exact Or.inr rfl)) (pwg_nil))) (len_name (len_name (len_nil)))) (fun _ _ _ _ _ => pwts_one (pwt_in (u65 hr) (pw_var 5) (pv_name 3))) (fun _ _ _ _ _ => pw_var 6) (by decide)))) sc__law_onward.nd))) (pws_one (pws_ret (pw_var 3))))
theorem g__law_onward {P : Program} {w : World} {K : PySem.W.Frag} {mg : Str → Option Value} {base : Heap} {fa : Addr} {fd : FuncData} (B : FreeB mg)  (F : FunD K "_law_onward" "_law_onward" (defArgs st__law_onward) (defBody st__law_onward) (defScope st__law_onward) [] [] fa fd) : FnG P w K mg base 1 fa fd ["_law_size", "_law_sides_here", "_law_spot"] (spF mg fs__law_onward) :=
  fn_pure F sc__law_onward (fun ds Q ex h => by obtain ⟨_, _, _, rfl, _⟩ := h; rfl) (fun cdv A outer s H E hg hr => d__law_onward B  hg hr) p__law_onward
theorem b__law_onward {K : PySem.W.Frag} {fa : Addr} {fd : FuncData} (F : FunD K "_law_onward" "_law_onward" (defArgs st__law_onward) (defBody st__law_onward) (defScope st__law_onward) [] [] fa fd) : Binds K fd ["_law_size", "_law_sides_here", "_law_spot"] [] := F.bindsN fun _ _ _ _ _ _ us hl => match us, hl with | [_, _, _], _ => rfl
theorem c__law_onward {P : Program} {w : World} {K : PySem.W.Frag} {mg : Str → Option Value} {base : Heap} {fa : Addr} {fd : FuncData} (B : FreeB mg)  (F : FunD K "_law_onward" "_law_onward" (defArgs st__law_onward) (defBody st__law_onward) (defScope st__law_onward) [] [] fa fd) (m : mg "_law_onward" = some (.ref fa)) : CalD P w K mg base 1 "_law_onward" ["_law_size", "_law_sides_here", "_law_spot"] (spF mg fs__law_onward) := ⟨fa, fd, g__law_onward B  F, m, F.kp, b__law_onward F⟩
abbrev st__law_barred : Stmt := top 46
theorem sc__law_barred : FnScope ["_law_size", "_law_sides_here", "_law_onward_here", "_law_rings", "_law_spot", "_law_mate"] ["_law_size", "_law_sides_here"] (defScope st__law_barred) := ⟨rfl, rfl, rfl, by decide +kernel, rfl, by decide +kernel, by decide +kernel⟩
theorem d__law_barred {P : Program} {w : World} {K : PySem.W.Frag} {mg : Str → Option Value} {base : Heap} {f : Addr} {cdv : Value} {A : Around} {outer : List Env} {s : Shared} {H : Hp} {E : XK} (B : FreeB mg) (C__law_onward : CalD P w K mg base 1 "_law_onward" ["_law_size", "_law_sides_here", "_law_spot"] (spF mg fs__law_onward)) (hg : (A.deeper (envOfC "_law_barred" (defScope st__law_barred) s.heap.objs.size f cdv)).guards = some []) (hr : Room 1 (A.deeper (envOfC "_law_barred" (defScope st__law_barred) s.heap.objs.size f cdv))) :
    PWSs (bX P w K mg base ["_law_size", "_law_sides_here", "_law_onward_here", "_law_rings", "_law_spot", "_law_mate"] "_law_barred" (defScope st__law_barred) f cdv A outer s H E) E (defBody st__law_barred) w__law_barred :=
  pws_cons (pws_set 2 (pw_lc (own := [("_law_spot", 4)]) rfl sc__law_barred.nd (blkOk_by (by kernel_rfl)) (pi_rng2 B.range (pw_int) (pw_bin o_add (pw_var 0) (pw_int))) (fun _ _ _ _ _ => pg_nm 4 sc__law_barred.nd (by first | exact Or.inl rfl | exact Or.inr rfl)) (fun _ _ _ _ _ => pwts_nil) (fun _ _ _ _ _ => pw_cd C__law_onward hg hr pass0 (pwa_cons (pw_var 0) (pwa_cons (pw_var 1) (pwa_cons (pw_var 4) (pwa_nil))))) (by decide)) sc__law_barred.nd) (pws_cons (pws_set 3 (pw_lc (own := [("_law_spot", 4)]) rfl sc__law_barred.nd (blkOk_by (by kernel_rfl)) (pi_rng2 B.range (pw_int) (pw_bin o_add (pw_var 0) (pw_int))) (fun _ _ _ _ _ => pg_nm 4 sc__law_barred.nd (by first | exact Or.inl rfl | exact Or.inr rfl)) (fun _ _ _ _ _ => pwts_one (pwt_in (u65 hr) (pw_var 4) (pv_of (pw_ix (u1 hr) (pv_name 2) (pw_bin o_sub (pw_var 4) (pw_int)))))) (fun _ _ _ _ _ => pw_var 4) (by decide)) sc__law_barred.nd) (pws_one (pws_ret (pw_lc (own := [("_law_spot", 4)]) rfl sc__law_barred.nd (blkOk_by (by kernel_rfl)) (pi_rng2 B.range (pw_int) (pw_bin o_add (pw_var 0) (pw_int))) (fun _ _ _ _ _ => pg_nm 4 sc__law_barred.nd (by first | exact Or.inl rfl | exact Or.inr rfl)) (fun _ _ _ _ _ => pwts_one (pwt_cmp (o_ne (u64 hr)) (pw_lc (own := [("_law_mate", 5)]) rfl sc__law_barred.nd (blkOk_by (by kernel_rfl)) (pi_lst (pv_name 3)) (fun _ _ _ _ _ => pg_nm 5 sc__law_barred.nd (by first | exact Or.inl rfl | exact Or.inr rfl)) (fun _ _ _ _ _ => pwts_one (pwt_in (u65 hr) (pw_var 5) (pv_of (pw_ix (u1 hr) (pv_name 2) (pw_bin o_sub (pw_var 4) (pw_int)))))) (fun _ _ _ _ _ => pw_var 5) (by decide)) (pw_lst (pwa_nil)))) (fun _ _ _ _ _ => pw_var 4) (by decide)))))
theorem g__law_barred {P : Program} {w : World} {K : PySem.W.Frag} {mg : Str → Option Value} {base : Heap} {fa : Addr} {fd : FuncData} (B : FreeB mg) (C__law_onward : CalD P w K mg base 1 "_law_onward" ["_law_size", "_law_sides_here", "_law_spot"] (spF mg fs__law_onward)) (F : FunD K "_law_barred" "_law_barred" (defArgs st__law_barred) (defBody st__law_barred) (defScope st__law_barred) [] [] fa fd) : FnG P w K mg base 2 fa fd ["_law_size", "_law_sides_here"] (spF mg fs__law_barred) :=
  fn_pure F sc__law_barred (fun ds Q ex h => by obtain ⟨_, _, rfl, _⟩ := h; rfl) (fun cdv A outer s H E hg hr => d__law_barred B C__law_onward hg hr) p__law_barred
theorem b__law_barred {K : PySem.W.Frag} {fa : Addr} {fd : FuncData} (F : FunD K "_law_barred" "_law_barred" (defArgs st__law_barred) (defBody st__law_barred) (defScope st__law_barred) [] [] fa fd) : Binds K fd ["_law_size", "_law_sides_here"] [] := F.bindsN fun _ _ _ _ _ _ us hl => match us, hl with | [_, _], _ => rfl
theorem c__law_barred {P : Program} {w : World} {K : PySem.W.Frag} {mg : Str → Option Value} {base : Heap} {fa : Addr} {fd : FuncData} (B : FreeB mg) (C__law_onward : CalD P w K mg base 1 "_law_onward" ["_law_size", "_law_sides_here", "_law_spot"] (spF mg fs__law_onward)) (F : FunD K "_law_barred" "_law_barred" (defArgs st__law_barred) (defBody st__law_barred) (defScope st__law_barred) [] [] fa fd) (m : mg "_law_barred" = some (.ref fa)) : CalD P w K mg base 2 "_law_barred" ["_law_size", "_law_sides_here"] (spF mg fs__law_barred) := ⟨fa, fd, g__law_barred B C__law_onward F, m, F.kp, b__law_barred F⟩
abbrev st__law_in_order : Stmt := top 44
theorem sc__law_in_order : FnScope ["_law_sides_here", "_law_side"] ["_law_sides_here"] (defScope st__law_in_order) := ⟨rfl, rfl, rfl, by decide +kernel, rfl, by decide +kernel, by decide +kernel⟩
theorem d__law_in_order {P : Program} {w : World} {K : PySem.W.Frag} {mg : Str → Option Value} {base : Heap} {f : Addr} {cdv : Value} {A : Around} {outer : List Env} {s : Shared} {H : Hp} {E : XK} (B : FreeB mg) (hg : (A.deeper (envOfC "_law_in_order" (defScope st__law_in_order) s.heap.objs.size f cdv)).guards = some []) (hr : Room 0 (A.deeper (envOfC "_law_in_order" (defScope st__law_in_order) s.heap.objs.size f cdv))) :
    PWSs (bX P w K mg base ["_law_sides_here", "_law_side"] "_law_in_order" (defScope st__law_in_order) f cdv A outer s H E) E (defBody st__law_in_order) w__law_in_order :=
  pws_one (pws_ret (pw_lc (own := [("_law_side", 1)]) rfl sc__law_in_order.nd (blkOk_by (by kernel_rfl)) (pi_lst (pv_of (pw_b1 (o_sorted (u64 hr)) B.sorted rfl (pv_of (pw_lc (own := [("_law_side", 1)]) rfl sc__law_in_order.nd (blkOk_by (by kernel_rfl)) (pi_lst (pv_name 0)) (fun _ _ _ _ _ => pg_nm 1 sc__law_in_order.nd (by first | exact Or.inl rfl | exact Or.inr rfl)) (fun _ _ _ _ _ => pwts_nil) (fun _ _ _ _ _ => pw_tup (pwa_cons (pw_lst (pwa_cons (pw_b1 (o_min rfl) B.min rfl (pv_name 1)) (pwa_cons (pw_b1 (o_max rfl) B.max rfl (pv_name 1)) (pwa_nil)))) (pwa_cons (pw_var 1) (pwa_nil)))) (by decide)))))) (fun _ _ _ _ _ => pg_nm 1 sc__law_in_order.nd (by first | exact Or.inl rfl | exact Or.inr rfl)) (fun _ _ _ _ _ => pwts_nil) (fun _ _ _ _ _ => pw_ix (u1 hr) (pv_name 1) (pw_int)) (by decide)))
theorem g__law_in_order {P : Program} {w : World} {K : PySem.W.Frag} {mg : Str → Option Value} {base : Heap} {fa : Addr} {fd : FuncData} (B : FreeB mg)  (F : FunD K "_law_in_order" "_law_in_order" (defArgs st__law_in_order) (defBody st__law_in_order) (defScope st__law_in_order) [] [] fa fd) : FnG P w K mg base 1 fa fd ["_law_sides_here"] (spF mg fs__law_in_order) :=
  fn_pure F sc__law_in_order (fun ds Q ex h => by obtain ⟨_, rfl, _⟩ := h; rfl) (fun cdv A outer s H E hg hr => d__law_in_order B  hg hr) p__law_in_order
theorem b__law_in_order {K : PySem.W.Frag} {fa : Addr} {fd : FuncData} (F : FunD K "_law_in_order" "_law_in_order" (defArgs st__law_in_order) (defBody st__law_in_order) (defScope st__law_in_order) [] [] fa fd) : Binds K fd ["_law_sides_here"] [] := F.bindsN fun _ _ _ _ _ _ us hl => match us, hl with | [_], _ => rfl
theorem c__law_in_order {P : Program} {w : World} {K : PySem.W.Frag} {mg : Str → Option Value} {base : Heap} {fa : Addr} {fd : FuncData} (B : FreeB mg)  (F : FunD K "_law_in_order" "_law_in_order" (defArgs st__law_in_order) (defBody st__law_in_order) (defScope st__law_in_order) [] [] fa fd) (m : mg "_law_in_order" = some (.ref fa)) : CalD P w K mg base 1 "_law_in_order" ["_law_sides_here"] (spF mg fs__law_in_order) := ⟨fa, fd, g__law_in_order B  F, m, F.kp, b__law_in_order F⟩
abbrev st__law_may : Stmt := top 42
theorem sc__law_may : FnScope ["_law_size", "_law_sides_here", "_law_tails", "_law_tail", "_law_head", "_law_spot"] ["_law_size", "_law_sides_here"] (defScope st__law_may) := ⟨rfl, rfl, rfl, by decide +kernel, rfl, by decide +kernel, by decide +kernel⟩
theorem d__law_may {P : Program} {w : World} {K : PySem.W.Frag} {mg : Str → Option Value} {base : Heap} {f : Addr} {cdv : Value} {A : Around} {outer : List Env} {s : Shared} {H : Hp} {E : XK} (B : FreeB mg) (hg : (A.deeper (envOfC "_law_may" (defScope st__law_may) s.heap.objs.size f cdv)).guards = some []) (hr : Room 0 (A.deeper (envOfC "_law_may" (defScope st__law_may) s.heap.objs.size f cdv))) :
    PWSs (bX P w K mg base ["_law_size", "_law_sides_here", "_law_tails", "_law_tail", "_law_head", "_law_spot"] "_law_may" (defScope st__law_may) f cdv A outer s H E) E (defBody st__law_may) w__law_may :=
  pws_cons (pws_set 2 (pw_lc (own := [("_law_tail", 3), ("_law_head", 4)]) rfl sc__law_may.nd (blkOk_by (by kernel_rfl)) (pi_lst (pv_name 1)) (fun _ _ _ _ _ => pg_tp (n := 2) rfl (pwg_cons (pg_nm 3 sc__law_may.nd (by first | exact Or.inl rfl | exact Or.inr rfl)) (pwg_cons (pg_nm 4 sc__law_may.nd (by first | exact Or.inl rfl | exact Or.inr rfl)) (pwg_nil))) (len_name (len_name (len_nil)))) (fun _ _ _ _ _ => pwts_nil) (fun _ _ _ _ _ => pw_var 3) (by decide)) sc__law_may.nd) (pws_one (pws_ret (pw_lc (own := [("_law_spot", 5)]) rfl sc__law_may.nd (blkOk_by (by kernel_rfl)) (pi_rng2 B.range (pw_int) (pw_bin o_add (pw_var 0) (pw_int))) (fun _ _ _ _ _ => pg_nm 5 sc__law_may.nd (by first | exact Or.inl rfl | exact Or.inr rfl)) (fun _ _ _ _ _ => pwts_one (pwt_notin (u65 hr) (pw_var 5) (pv_name 2))) (fun _ _ _ _ _ => pw_var 5) (by decide))))
theorem g__law_may {P : Program} {w : World} {K : PySem.W.Frag} {mg : Str → Option Value} {base : Heap} {fa : Addr} {fd : FuncData} (B : FreeB mg)  (F : FunD K "_law_may" "_law_may" (defArgs st__law_may) (defBody st__law_may) (defScope st__law_may) [] [] fa fd) : FnG P w K mg base 1 fa fd ["_law_size", "_law_sides_here"] (spF mg fs__law_may) :=
  fn_pure F sc__law_may (fun ds Q ex h => by obtain ⟨_, _, rfl, _⟩ := h; rfl) (fun cdv A outer s H E hg hr => d__law_may B  hg hr) p__law_may
theorem b__law_may {K : PySem.W.Frag} {fa : Addr} {fd : FuncData} (F : FunD K "_law_may" "_law_may" (defArgs st__law_may) (defBody st__law_may) (defScope st__law_may) [] [] fa fd) : Binds K fd ["_law_size", "_law_sides_here"] [] := F.bindsN fun _ _ _ _ _ _ us hl => match us, hl with | [_, _], _ => rfl
theorem c__law_may {P : Program} {w : World} {K : PySem.W.Frag} {mg : Str → Option Value} {base : Heap} {fa : Addr} {fd : FuncData} (B : FreeB mg)  (F : FunD K "_law_may" "_law_may" (defArgs st__law_may) (defBody st__law_may) (defScope st__law_may) [] [] fa fd) (m : mg "_law_may" = some (.ref fa)) : CalD P w K mg base 1 "_law_may" ["_law_size", "_law_sides_here"] (spF mg fs__law_may) := ⟨fa, fd, g__law_may B  F, m, F.kp, b__law_may F⟩
abbrev st__law_turned : Stmt := top 43
theorem sc__law_turned : FnScope ["_law_sides_here", "_law_spot", "_law_tail", "_law_head"] ["_law_sides_here", "_law_spot"] (defScope st__law_turned) := ⟨rfl, rfl, rfl, by decide +kernel, rfl, by decide +kernel, by decide +kernel⟩
theorem d__law_turned {P : Program} {w : World} {K : PySem.W.Frag} {mg : Str → Option Value} {base : Heap} {f : Addr} {cdv : Value} {A : Around} {outer : List Env} {s : Shared} {H : Hp} {E : XK} (B : FreeB mg) (hg : (A.deeper (envOfC "_law_turned" (defScope st__law_turned) s.heap.objs.size f cdv)).guards = some []) (hr : Room 0 (A.deeper (envOfC "_law_turned" (defScope st__law_turned) s.heap.objs.size f cdv))) :
    PWSs (bX P w K mg base ["_law_sides_here", "_law_spot", "_law_tail", "_law_head"] "_law_turned" (defScope st__law_turned) f cdv A outer s H E) E (defBody st__law_turned) w__law_turned :=
  pws_one (pws_ret (pw_lc (own := [("_law_tail", 2), ("_law_head", 3)]) rfl sc__law_turned.nd (blkOk_by (by kernel_rfl)) (pi_lst (pv_name 0)) (fun _ _ _ _ _ => pg_tp (n := 2) rfl (pwg_cons (pg_nm 2 sc__law_turned.nd (by first | exact Or.inl rfl | exact Or.inr rfl)) (pwg_cons (pg_nm 3 sc__law_turned.nd (by first | exact Or.inl rfl | exact Or.inr rfl)) (pwg_nil))) (len_name (len_name (len_nil)))) (fun _ _ _ _ _ => pwts_nil) (fun _ _ _ _ _ => pw_ifExp (pwt_cmp (o_eq (u64 hr)) (pw_var 3) (pw_var 1)) (pw_lst (pwa_cons (pw_var 3) (pwa_cons (pw_var 2) (pwa_nil)))) (pw_lst (pwa_cons (pw_var 2) (pwa_cons (pw_var 3) (pwa_nil))))) (by decide)))
theorem g__law_turned {P : Program} {w : World} {K : PySem.W.Frag} {mg : Str → Option Value} {base : Heap} {fa : Addr} {fd : FuncData} (B : FreeB mg)  (F : FunD K "_law_turned" "_law_turned" (defArgs st__law_turned) (defBody st__law_turned) (defScope st__law_turned) [] [] fa fd) : FnG P w K mg base 1 fa fd ["_law_sides_here", "_law_spot"] (spF mg fs__law_turned) :=
  fn_pure F sc__law_turned (fun ds Q ex h => by obtain ⟨_, _, rfl, _⟩ := h; rfl) (fun cdv A outer s H E hg hr => d__law_turned B  hg hr) p__law_turned
theorem b__law_turned {K : PySem.W.Frag} {fa : Addr} {fd : FuncData} (F : FunD K "_law_turned" "_law_turned" (defArgs st__law_turned) (defBody st__law_turned) (defScope st__law_turned) [] [] fa fd) : Binds K fd ["_law_sides_here", "_law_spot"] [] := F.bindsN fun _ _ _ _ _ _ us hl => match us, hl with | [_, _], _ => rfl
theorem c__law_turned {P : Program} {w : World} {K : PySem.W.Frag} {mg : Str → Option Value} {base : Heap} {fa : Addr} {fd : FuncData} (B : FreeB mg)  (F : FunD K "_law_turned" "_law_turned" (defArgs st__law_turned) (defBody st__law_turned) (defScope st__law_turned) [] [] fa fd) (m : mg "_law_turned" = some (.ref fa)) : CalD P w K mg base 1 "_law_turned" ["_law_sides_here", "_law_spot"] (spF mg fs__law_turned) := ⟨fa, fd, g__law_turned B  F, m, F.kp, b__law_turned F⟩
abbrev st__law_played : Stmt := top 47
theorem sc__law_played : FnScope ["_law_draws_here", "_law_size", "_law_sides_here", "_law_most", "_law_told", "_law_step", "_law_free"] ["_law_draws_here", "_law_size", "_law_sides_here", "_law_most"] (defScope st__law_played) := ⟨rfl, rfl, rfl, by decide +kernel, rfl, by decide +kernel, by decide +kernel⟩
theorem d__law_played {P : Program} {w : World} {K : PySem.W.Frag} {mg : Str → Option Value} {base : Heap} {f : Addr} {cdv : Value} {A : Around} {outer : List Env} {s : Shared} {H : Hp} {E : XK} (B : FreeB mg) (C__law_next : CalD P w K mg base 1 "_law_next" ["_law_draws_here"] (spM fs__law_next)) (C__law_may : CalD P w K mg base 1 "_law_may" ["_law_size", "_law_sides_here"] (spF mg fs__law_may)) (C__law_turned : CalD P w K mg base 1 "_law_turned" ["_law_sides_here", "_law_spot"] (spF mg fs__law_turned)) (hg : (A.deeper (envOfC "_law_played" (defScope st__law_played) s.heap.objs.size f cdv)).guards = some []) (hr : Room 1 (A.deeper (envOfC "_law_played" (defScope st__law_played) s.heap.objs.size f cdv))) :
    PWSs (bX P w K mg base ["_law_draws_here", "_law_size", "_law_sides_here", "_law_most", "_law_told", "_law_step", "_law_free"] "_law_played" (defScope st__law_played) f cdv A outer s H E) E (defBody st__law_played) w__law_played :=
  pws_cons (pws_setO 4 (pn_lst (pwa_nil)) sc__law_played.nd) (pws_cons (pws_for own_fn rfl (pi_rng1 B.range (pw_bin o_mod (pw_t1 o_int B.int rfl (pv_of (pw_cm 0 C__law_next hg hr pass_fn (pwa_nil)))) (pw_bin o_add (pw_var 3) (pw_int)))) (pg_nm 5 sc__law_played.nd (by first | exact Or.inl rfl | exact Or.inr rfl)) (pws_cons (pws_set 6 (pw_cd C__law_may hg hr pass_fn (pwa_cons (pw_var 1) (pwa_cons (pw_var 2) (pwa_nil)))) sc__law_played.nd) (pws_one (pws_if (pwt_cmp (o_ne (u64 hr)) (pw_var 6) (pw_lst (pwa_nil))) (pws_cons (pws_expr (pw_app 4 (pw_ix (u1 hr) (pv_name 6) (pw_bin o_mod (pw_t1 o_int B.int rfl (pv_of (pw_cm 0 C__law_next hg hr pass_fn (pwa_nil)))) (pw_b1 o_len B.len rfl (pv_name 6)))))) (pws_one (pws_set 2 (pw_cd C__law_turned hg hr pass_fn (pwa_cons (pw_var 2) (pwa_cons (pw_ix (u1 hr) (pv_name 4) (pw_neg (pw_int))) (pwa_nil)))) sc__law_played.nd))) (pws_nil))))) (pws_one (pws_ret (pw_tup (pwa_cons (pw_var 4) (pwa_cons (pw_var 2) (pwa_nil)))))))
theorem g__law_played {P : Program} {w : World} {K : PySem.W.Frag} {mg : Str → Option Value} {base : Heap} {fa : Addr} {fd : FuncData} (B : FreeB mg) (C__law_next : CalD P w K mg base 1 "_law_next" ["_law_draws_here"] (spM fs__law_next)) (C__law_may : CalD P w K mg base 1 "_law_may" ["_law_size", "_law_sides_here"] (spF mg fs__law_may)) (C__law_turned : CalD P w K mg base 1 "_law_turned" ["_law_sides_here", "_law_spot"] (spF mg fs__law_turned)) (F : FunD K "_law_played" "_law_played" (defArgs st__law_played) (defBody st__law_played) (defScope st__law_played) [] [] fa fd) : FnG P w K mg base 2 fa fd ["_law_draws_here", "_law_size", "_law_sides_here", "_law_most"] (spM fs__law_played) :=
  fn_pureM F sc__law_played (fun os ds Q h => by obtain ⟨_, _, _, _, rfl, _⟩ := h; rfl) (fun cdv A outer s H E hg hr => d__law_played B C__law_next C__law_may C__law_turned hg hr) p__law_played
theorem b__law_played {K : PySem.W.Frag} {fa : Addr} {fd : FuncData} (F : FunD K "_law_played" "_law_played" (defArgs st__law_played) (defBody st__law_played) (defScope st__law_played) [] [] fa fd) : Binds K fd ["_law_draws_here", "_law_size", "_law_sides_here", "_law_most"] [] := F.bindsN fun _ _ _ _ _ _ us hl => match us, hl with | [_, _, _, _], _ => rfl
theorem c__law_played {P : Program} {w : World} {K : PySem.W.Frag} {mg : Str → Option Value} {base : Heap} {fa : Addr} {fd : FuncData} (B : FreeB mg) (C__law_next : CalD P w K mg base 1 "_law_next" ["_law_draws_here"] (spM fs__law_next)) (C__law_may : CalD P w K mg base 1 "_law_may" ["_law_size", "_law_sides_here"] (spF mg fs__law_may)) (C__law_turned : CalD P w K mg base 1 "_law_turned" ["_law_sides_here", "_law_spot"] (spF mg fs__law_turned)) (F : FunD K "_law_played" "_law_played" (defArgs st__law_played) (defBody st__law_played) (defScope st__law_played) [] [] fa fd) (m : mg "_law_played" = some (.ref fa)) : CalD P w K mg base 2 "_law_played" ["_law_draws_here", "_law_size", "_law_sides_here", "_law_most"] (spM fs__law_played) := ⟨fa, fd, g__law_played B C__law_next C__law_may C__law_turned F, m, F.kp, b__law_played F⟩
abbrev st__law_filled : Stmt := top 48
theorem sc__law_filled : FnScope ["_law_draws_here", "_law_size", "_law_sides_here", "_law_counts", "_law_most", "_law_told", "_law_step", "_law_free", "_law_spot"] ["_law_draws_here", "_law_size", "_law_sides_here", "_law_counts", "_law_most"] (defScope st__law_filled) := ⟨rfl, rfl, rfl, by decide +kernel, rfl, by decide +kernel, by decide +kernel⟩
theorem d__law_filled {P : Program} {w : World} {K : PySem.W.Frag} {mg : Str → Option Value} {base : Heap} {f : Addr} {cdv : Value} {A : Around} {outer : List Env} {s : Shared} {H : Hp} {E : XK} (B : FreeB mg) (C__law_may : CalD P w K mg base 1 "_law_may" ["_law_size", "_law_sides_here"] (spF mg fs__law_may)) (C__law_next : CalD P w K mg base 1 "_law_next" ["_law_draws_here"] (spM fs__law_next)) (C__law_turned : CalD P w K mg base 1 "_law_turned" ["_law_sides_here", "_law_spot"] (spF mg fs__law_turned)) (hg : (A.deeper (envOfC "_law_filled" (defScope st__law_filled) s.heap.objs.size f cdv)).guards = some []) (hr : Room 1 (A.deeper (envOfC "_law_filled" (defScope st__law_filled) s.heap.objs.size f cdv))) :
    PWSs (bX P w K mg base ["_law_draws_here", "_law_size", "_law_sides_here", "_law_counts", "_law_most", "_law_told", "_law_step", "_law_free", "_law_spot"] "_law_filled" (defScope st__law_filled) f cdv A outer s H E) E (defBody st__law_filled) w__law_filled :=
  pws_cons (pws_setO 5 (pn_lst (pwa_nil)) sc__law_filled.nd) (pws_cons (pws_for own_fn rfl (pi_rng1 B.range (pw_bin o_mul (pw_var 1) (pw_var 4))) (pg_nm 6 sc__law_filled.nd (by first | exact Or.inl rfl | exact Or.inr rfl)) (pws_cons (pws_setLc 7 (own := [("_law_spot", 8)]) rfl sc__law_filled.nd (blkOk_by (by kernel_rfl)) (pi_lst (pv_of (pw_cd C__law_may hg hr pass_fn (pwa_cons (pw_var 1) (pwa_cons (pw_var 2) (pwa_nil)))))) (fun _ _ _ _ _ => pg_nm 8 sc__law_filled.nd (by first | exact Or.inl rfl | exact Or.inr rfl)) (fun _ _ _ _ _ => pwts_one (pwt_cmp o_lt (pw_ix (u1 hr) (pv_name 3) (pw_bin o_sub (pw_var 8) (pw_int))) (pw_var 4))) (fun _ _ _ _ _ => pw_var 8) (by decide) rfl) (pws_cons (pws_if (pwt_cmp (o_eq (u64 hr)) (pw_var 7) (pw_lst (pwa_nil))) (pws_one (pws_ret (pw_tup (pwa_cons (pw_var 5) (pwa_cons (pw_var 2) (pwa_nil)))))) (pws_nil)) (pws_cons (pws_set 8 (pw_ix (u1 hr) (pv_name 7) (pw_bin o_mod (pw_t1 o_int B.int rfl (pv_of (pw_cm 0 C__law_next hg hr pass_fn (pwa_nil)))) (pw_b1 o_len B.len rfl (pv_name 7)))) sc__law_filled.nd) (pws_cons (pws_set 3 (pw_bin o_add (pw_bin o_add (pw_sl (pv_name 3) (pwo_none) (pwo_some (pw_bin o_sub (pw_var 8) (pw_int)))) (pw_lst (pwa_cons (pw_bin o_add (pw_ix (u1 hr) (pv_name 3) (pw_bin o_sub (pw_var 8) (pw_int))) (pw_int)) (pwa_nil)))) (pw_sl (pv_name 3) (pwo_some (pw_var 8)) (pwo_none))) sc__law_filled.nd) (pws_cons (pws_expr (pw_app 5 (pw_var 8))) (pws_one (pws_set 2 (pw_cd C__law_turned hg hr pass_fn (pwa_cons (pw_var 2) (pwa_cons (pw_var 8) (pwa_nil)))) sc__law_filled.nd)))))))) (pws_one (pws_ret (pw_tup (pwa_cons (pw_var 5) (pwa_cons (pw_var 2) (pwa_nil)))))))
theorem g__law_filled {P : Program} {w : World} {K : PySem.W.Frag} {mg : Str → Option Value} {base : Heap} {fa : Addr} {fd : FuncData} (B : FreeB mg) (C__law_may : CalD P w K mg base 1 "_law_may" ["_law_size", "_law_sides_here"] (spF mg fs__law_may)) (C__law_next : CalD P w K mg base 1 "_law_next" ["_law_draws_here"] (spM fs__law_next)) (C__law_turned : CalD P w K mg base 1 "_law_turned" ["_law_sides_here", "_law_spot"] (spF mg fs__law_turned)) (F : FunD K "_law_filled" "_law_filled" (defArgs st__law_filled) (defBody st__law_filled) (defScope st__law_filled) [] [] fa fd) : FnG P w K mg base 2 fa fd ["_law_draws_here", "_law_size", "_law_sides_here", "_law_counts", "_law_most"] (spM fs__law_filled) :=
  fn_pureM F sc__law_filled (fun os ds Q h => by obtain ⟨_, _, _, _, _, rfl, _⟩ := h; rfl) (fun cdv A outer s H E hg hr => d__law_filled B C__law_may C__law_next C__law_turned hg hr) p__law_filled
theorem b__law_filled {K : PySem.W.Frag} {fa : Addr} {fd : FuncData} (F : FunD K "_law_filled" "_law_filled" (defArgs st__law_filled) (defBody st__law_filled) (defScope st__law_filled) [] [] fa fd) : Binds K fd ["_law_draws_here", "_law_size", "_law_sides_here", "_law_counts", "_law_most"] [] := F.bindsN fun _ _ _ _ _ _ us hl => match us, hl with | [_, _, _, _, _], _ => rfl
theorem c__law_filled {P : Program} {w : World} {K : PySem.W.Frag} {mg : Str → Option Value} {base : Heap} {fa : Addr} {fd : FuncData} (B : FreeB mg) (C__law_may : CalD P w K mg base 1 "_law_may" ["_law_size", "_law_sides_here"] (spF mg fs__law_may)) (C__law_next : CalD P w K mg base 1 "_law_next" ["_law_draws_here"] (spM fs__law_next)) (C__law_turned : CalD P w K mg base 1 "_law_turned" ["_law_sides_here", "_law_spot"] (spF mg fs__law_turned)) (F : FunD K "_law_filled" "_law_filled" (defArgs st__law_filled) (defBody st__law_filled) (defScope st__law_filled) [] [] fa fd) (m : mg "_law_filled" = some (.ref fa)) : CalD P w K mg base 2 "_law_filled" ["_law_draws_here", "_law_size", "_law_sides_here", "_law_counts", "_law_most"] (spM fs__law_filled) := ⟨fa, fd, g__law_filled B C__law_may C__law_next C__law_turned F, m, F.kp, b__law_filled F⟩
abbrev st_is_whole : Stmt := top 9
theorem sc_is_whole : FnScope ["thing"] ["thing"] (defScope st_is_whole) := ⟨rfl, rfl, rfl, by decide +kernel, rfl, by decide +kernel, by decide +kernel⟩
theorem d_is_whole {P : Program} {w : World} {K : PySem.W.Frag} {mg : Str → Option Value} {base : Heap} {f : Addr} {cdv : Value} {A : Around} {outer : List Env} {s : Shared} {H : Hp} {E : XK} (B : FreeB mg) (hg : (A.deeper (envOfC "is_whole" (defScope st_is_whole) s.heap.objs.size f cdv)).guards = some []) (hr : Room 0 (A.deeper (envOfC "is_whole" (defScope st_is_whole) s.heap.objs.size f cdv))) :
    PWSs (bX P w K mg base ["thing"] "is_whole" (defScope st_is_whole) f cdv A outer s H E) E (defBody st_is_whole) w_is_whole :=
  pws_one (pws_ret (pw_and (pw_isi kit_int B.isinstance B.int rfl rfl (pv_name 0)) (pw_one (pw_not (pw_isi kit_bool B.isinstance B.bool rfl rfl (pv_name 0))))))
theorem g_is_whole {P : Program} {w : World} {K : PySem.W.Frag} {mg : Str → Option Value} {base : Heap} {fa : Addr} {fd : FuncData} (B : FreeB mg)  (F : FunD K "is_whole" "is_whole" (defArgs st_is_whole) (defBody st_is_whole) (defScope st_is_whole) [] [] fa fd) : FnG P w K mg base 1 fa fd ["thing"] (spF mg fs_is_whole) :=
  fn_pure F sc_is_whole (fun ds Q ex h => by obtain ⟨_, _, rfl, _⟩ := h; rfl) (fun cdv A outer s H E hg hr => d_is_whole B  hg hr) p_is_whole
theorem b_is_whole {K : PySem.W.Frag} {fa : Addr} {fd : FuncData} (F : FunD K "is_whole" "is_whole" (defArgs st_is_whole) (defBody st_is_whole) (defScope st_is_whole) [] [] fa fd) : Binds K fd ["thing"] [] := F.bindsN fun _ _ _ _ _ _ us hl => match us, hl with | [_], _ => rfl
theorem c_is_whole {P : Program} {w : World} {K : PySem.W.Frag} {mg : Str → Option Value} {base : Heap} {fa : Addr} {fd : FuncData} (B : FreeB mg)  (F : FunD K "is_whole" "is_whole" (defArgs st_is_whole) (defBody st_is_whole) (defScope st_is_whole) [] [] fa fd) (m : mg "is_whole" = some (.ref fa)) : CalD P w K mg base 1 "is_whole" ["thing"] (spF mg fs_is_whole) := ⟨fa, fd, g_is_whole B  F, m, F.kp, b_is_whole F⟩
abbrev st_check_number : Stmt := top 10
theorem sc_check_number : FnScope ["number", "least", "most"] ["number", "least", "most"] (defScope st_check_number) := ⟨rfl, rfl, rfl, by decide +kernel, rfl, by decide +kernel, by decide +kernel⟩
theorem d_check_number {P : Program} {w : World} {K : PySem.W.Frag} {mg : Str → Option Value} {base : Heap} {f : Addr} {cdv : Value} {A : Around} {outer : List Env} {s : Shared} {H : Hp} {E : XK} (B : FreeB mg) (C_is_whole : CalD P w K mg base 1 "is_whole" ["thing"] (spF mg fs_is_whole)) (hg : (A.deeper (envOfC "check_number" (defScope st_check_number) s.heap.objs.size f cdv)).guards = some []) (hr : Room 1 (A.deeper (envOfC "check_number" (defScope st_check_number) s.heap.objs.size f cdv))) :
    PWSs (bX P w K mg base ["number", "least", "most"] "check_number" (defScope st_check_number) f cdv A outer s H E) E (defBody st_check_number) w_check_number :=
  pws_one (pws_if (pwt_of (pww_or (pwt_not (pwt_val (pw_cd C_is_whole hg hr pass_fn (pwa_cons (pw_var 0) (pwa_nil))))) (pww_or1 (pwt_not (pwt_chain o_le o_le (pw_var 1) (pw_var 0) (pw_var 2)))))) (pws_one (pws_never)) (pws_nil))
theorem g_check_number {P : Program} {w : World} {K : PySem.W.Frag} {mg : Str → Option Value} {base : Heap} {fa : Addr} {fd : FuncData} (B : FreeB mg) (C_is_whole : CalD P w K mg base 1 "is_whole" ["thing"] (spF mg fs_is_whole)) (F : FunD K "check_number" "check_number" (defArgs st_check_number) (defBody st_check_number) (defScope st_check_number) [] [] fa fd) : FnG P w K mg base 2 fa fd ["number", "least", "most"] (spF mg fs_check_number) :=
  fn_pure F sc_check_number (fun ds Q ex h => by obtain ⟨_, _, _, rfl, _⟩ := h; rfl) (fun cdv A outer s H E hg hr => d_check_number B C_is_whole hg hr) p_check_number
theorem b_check_number {K : PySem.W.Frag} {fa : Addr} {fd : FuncData} (F : FunD K "check_number" "check_number" (defArgs st_check_number) (defBody st_check_number) (defScope st_check_number) [] [] fa fd) : Binds K fd ["number", "least", "most"] [] := F.bindsN fun _ _ _ _ _ _ us hl => match us, hl with | [_, _, _], _ => rfl
theorem c_check_number {P : Program} {w : World} {K : PySem.W.Frag} {mg : Str → Option Value} {base : Heap} {fa : Addr} {fd : FuncData} (B : FreeB mg) (C_is_whole : CalD P w K mg base 1 "is_whole" ["thing"] (spF mg fs_is_whole)) (F : FunD K "check_number" "check_number" (defArgs st_check_number) (defBody st_check_number) (defScope st_check_number) [] [] fa fd) (m : mg "check_number" = some (.ref fa)) : CalD P w K mg base 2 "check_number" ["number", "least", "most"] (spF mg fs_check_number) := ⟨fa, fd, g_check_number B C_is_whole F, m, F.kp, b_check_number F⟩
abbrev st_check_points : Stmt := top 11
theorem sc_check_points : FnScope ["points"] ["points"] (defScope st_check_points) := ⟨rfl, rfl, rfl, by decide +kernel, rfl, by decide +kernel, by decide +kernel⟩
theorem d_check_points {P : Program} {w : World} {K : PySem.W.Frag} {mg : Str → Option Value} {base : Heap} {f : Addr} {cdv : Value} {A : Around} {outer : List Env} {s : Shared} {H : Hp} {E : XK} (B : FreeB mg) (g_MOST_POINTS : ∃ t, mg "MOST_POINTS" = some (.int 12 t)) (C_check_number : CalD P w K mg base 2 "check_number" ["number", "least", "most"] (spF mg fs_check_number)) (hg : (A.deeper (envOfC "check_points" (defScope st_check_points) s.heap.objs.size f cdv)).guards = some []) (hr : Room 2 (A.deeper (envOfC "check_points" (defScope st_check_points) s.heap.objs.size f cdv))) :
    PWSs (bX P w K mg base ["points"] "check_points" (defScope st_check_points) f cdv A outer s H E) E (defBody st_check_points) w_check_points :=
  pws_one (pws_expr (pw_cd C_check_number hg hr pass_fn (pwa_cons (pw_var 0) (pwa_cons (pw_int) (pwa_cons (pw_gint g_MOST_POINTS) (pwa_nil))))))
theorem g_check_points {P : Program} {w : World} {K : PySem.W.Frag} {mg : Str → Option Value} {base : Heap} {fa : Addr} {fd : FuncData} (B : FreeB mg) (g_MOST_POINTS : ∃ t, mg "MOST_POINTS" = some (.int 12 t)) (C_check_number : CalD P w K mg base 2 "check_number" ["number", "least", "most"] (spF mg fs_check_number)) (F : FunD K "check_points" "check_points" (defArgs st_check_points) (defBody st_check_points) (defScope st_check_points) [] [] fa fd) : FnG P w K mg base 3 fa fd ["points"] (spF mg fs_check_points) :=
  fn_pure F sc_check_points (fun ds Q ex h => by obtain ⟨_, rfl, _⟩ := h; rfl) (fun cdv A outer s H E hg hr => d_check_points B g_MOST_POINTS C_check_number hg hr) p_check_points
theorem b_check_points {K : PySem.W.Frag} {fa : Addr} {fd : FuncData} (F : FunD K "check_points" "check_points" (defArgs st_check_points) (defBody st_check_points) (defScope st_check_points) [] [] fa fd) : Binds K fd ["points"] [] := F.bindsN fun _ _ _ _ _ _ us hl => match us, hl with | [_], _ => rfl
theorem c_check_points {P : Program} {w : World} {K : PySem.W.Frag} {mg : Str → Option Value} {base : Heap} {fa : Addr} {fd : FuncData} (B : FreeB mg) (g_MOST_POINTS : ∃ t, mg "MOST_POINTS" = some (.int 12 t)) (C_check_number : CalD P w K mg base 2 "check_number" ["number", "least", "most"] (spF mg fs_check_number)) (F : FunD K "check_points" "check_points" (defArgs st_check_points) (defBody st_check_points) (defScope st_check_points) [] [] fa fd) (m : mg "check_points" = some (.ref fa)) : CalD P w K mg base 3 "check_points" ["points"] (spF mg fs_check_points) := ⟨fa, fd, g_check_points B g_MOST_POINTS C_check_number F, m, F.kp, b_check_points F⟩
abbrev st_is_pair : Stmt := top 12
theorem sc_is_pair : FnScope ["thing", "points", "point"] ["thing", "points"] (defScope st_is_pair) := ⟨rfl, rfl, rfl, by decide +kernel, rfl, by decide +kernel, by decide +kernel⟩
theorem d_is_pair {P : Program} {w : World} {K : PySem.W.Frag} {mg : Str → Option Value} {base : Heap} {f : Addr} {cdv : Value} {A : Around} {outer : List Env} {s : Shared} {H : Hp} {E : XK} (B : FreeB mg) (C_is_whole : CalD P w K mg base 1 "is_whole" ["thing"] (spF mg fs_is_whole)) (hg : (A.deeper (envOfC "is_pair" (defScope st_is_pair) s.heap.objs.size f cdv)).guards = some []) (hr : Room 1 (A.deeper (envOfC "is_pair" (defScope st_is_pair) s.heap.objs.size f cdv))) :
    PWSs (bX P w K mg base ["thing", "points", "point"] "is_pair" (defScope st_is_pair) f cdv A outer s H E) E (defBody st_is_pair) w_is_pair :=
  pws_cons (pws_if (pwt_of (pww_or (pwt_not (pwt_val (pw_isi kit_list B.isinstance B.list rfl rfl (pv_name 0)))) (pww_or1 (pwt_cmp (o_ne (u64 hr)) (pw_b1 o_len B.len rfl (pv_name 0)) (pw_int))))) (pws_one (pws_ret (pw_bl))) (pws_nil)) (pws_one (pws_ret (pw_and (pw_b1 (o_all rfl) B.all rfl (pv_of (pw_lc (own := [("point", 2)]) rfl sc_is_pair.nd (blkOk_by (by kernel_rfl)) (pi_lst (pv_name 0)) (fun _ _ _ _ _ => pg_nm 2 sc_is_pair.nd (by first | exact Or.inl rfl | exact Or.inr rfl)) (fun _ _ _ _ _ => pwts_nil) (fun _ _ _ _ _ => pw_and (pw_cd C_is_whole hg hr pass0 (pwa_cons (pw_var 2) (pwa_nil))) (pw_one (pw_chain o_le o_le (pw_int) (pw_var 2) (pw_var 1)))) (by decide)))) (pw_one (pw_cmp (o_ne (u64 hr)) (pw_ix (u1 hr) (pv_name 0) (pw_int)) (pw_ix (u1 hr) (pv_name 0) (pw_int)))))))
theorem g_is_pair {P : Program} {w : World} {K : PySem.W.Frag} {mg : Str → Option Value} {base : Heap} {fa : Addr} {fd : FuncData} (B : FreeB mg) (C_is_whole : CalD P w K mg base 1 "is_whole" ["thing"] (spF mg fs_is_whole)) (F : FunD K "is_pair" "is_pair" (defArgs st_is_pair) (defBody st_is_pair) (defScope st_is_pair) [] [] fa fd) : FnG P w K mg base 2 fa fd ["thing", "points"] (spF mg fs_is_pair) :=
  fn_pure F sc_is_pair (fun ds Q ex h => by obtain ⟨_, _, rfl, _⟩ := h; rfl) (fun cdv A outer s H E hg hr => d_is_pair B C_is_whole hg hr) p_is_pair
theorem b_is_pair {K : PySem.W.Frag} {fa : Addr} {fd : FuncData} (F : FunD K "is_pair" "is_pair" (defArgs st_is_pair) (defBody st_is_pair) (defScope st_is_pair) [] [] fa fd) : Binds K fd ["thing", "points"] [] := F.bindsN fun _ _ _ _ _ _ us hl => match us, hl with | [_, _], _ => rfl
theorem c_is_pair {P : Program} {w : World} {K : PySem.W.Frag} {mg : Str → Option Value} {base : Heap} {fa : Addr} {fd : FuncData} (B : FreeB mg) (C_is_whole : CalD P w K mg base 1 "is_whole" ["thing"] (spF mg fs_is_whole)) (F : FunD K "is_pair" "is_pair" (defArgs st_is_pair) (defBody st_is_pair) (defScope st_is_pair) [] [] fa fd) (m : mg "is_pair" = some (.ref fa)) : CalD P w K mg base 2 "is_pair" ["thing", "points"] (spF mg fs_is_pair) := ⟨fa, fd, g_is_pair B C_is_whole F, m, F.kp, b_is_pair F⟩
abbrev st_wrong_pair : Stmt := top 13
theorem sc_wrong_pair : FnScope ["pairs", "points", "seen", "index", "pair"] ["pairs", "points"] (defScope st_wrong_pair) := ⟨rfl, rfl, rfl, by decide +kernel, rfl, by decide +kernel, by decide +kernel⟩
theorem d_wrong_pair {P : Program} {w : World} {K : PySem.W.Frag} {mg : Str → Option Value} {base : Heap} {f : Addr} {cdv : Value} {A : Around} {outer : List Env} {s : Shared} {H : Hp} {E : XK} (B : FreeB mg) (C_is_pair : CalD P w K mg base 2 "is_pair" ["thing", "points"] (spF mg fs_is_pair)) (hg : (A.deeper (envOfC "wrong_pair" (defScope st_wrong_pair) s.heap.objs.size f cdv)).guards = some []) (hr : Room 2 (A.deeper (envOfC "wrong_pair" (defScope st_wrong_pair) s.heap.objs.size f cdv))) :
    PWSs (bX P w K mg base ["pairs", "points", "seen", "index", "pair"] "wrong_pair" (defScope st_wrong_pair) f cdv A outer s H E) E (defBody st_wrong_pair) w_wrong_pair :=
  pws_cons (pws_setO 2 (pn_dt) sc_wrong_pair.nd) (pws_cons (pws_for own_fn rfl (pi_en B.enumerate (pv_name 0)) (pg_tp (n := 2) rfl (pwg_cons (pg_nm 3 sc_wrong_pair.nd (by first | exact Or.inl rfl | exact Or.inr rfl)) (pwg_cons (pg_nm 4 sc_wrong_pair.nd (by first | exact Or.inl rfl | exact Or.inr rfl)) (pwg_nil))) (len_name (len_name (len_nil)))) (pws_cons (pws_if (pwt_of (pww_or (pwt_not (pwt_val (pw_cd C_is_pair hg hr pass_fn (pwa_cons (pw_var 4) (pwa_cons (pw_var 1) (pwa_nil)))))) (pww_or1 (pwt_in (u65 hr) (pw_tup (pwa_cons (pw_b1 (o_min rfl) B.min rfl (pv_name 4)) (pwa_cons (pw_b1 (o_max rfl) B.max rfl (pv_name 4)) (pwa_nil)))) (pv_name 2))))) (pws_one (pws_ret (pw_var 3))) (pws_nil)) (pws_one (pws_put 2 (u1 hr) (pw_bl) (pw_tup (pwa_cons (pw_b1 (o_min rfl) B.min rfl (pv_name 4)) (pwa_cons (pw_b1 (o_max rfl) B.max rfl (pv_name 4)) (pwa_nil)))))))) (pws_one (pws_ret (pw_non))))
theorem g_wrong_pair {P : Program} {w : World} {K : PySem.W.Frag} {mg : Str → Option Value} {base : Heap} {fa : Addr} {fd : FuncData} (B : FreeB mg) (C_is_pair : CalD P w K mg base 2 "is_pair" ["thing", "points"] (spF mg fs_is_pair)) (F : FunD K "wrong_pair" "wrong_pair" (defArgs st_wrong_pair) (defBody st_wrong_pair) (defScope st_wrong_pair) [] [] fa fd) : FnG P w K mg base 3 fa fd ["pairs", "points"] (spF mg fs_wrong_pair) :=
  fn_pure F sc_wrong_pair (fun ds Q ex h => by obtain ⟨_, _, rfl, _⟩ := h; rfl) (fun cdv A outer s H E hg hr => d_wrong_pair B C_is_pair hg hr) p_wrong_pair
theorem b_wrong_pair {K : PySem.W.Frag} {fa : Addr} {fd : FuncData} (F : FunD K "wrong_pair" "wrong_pair" (defArgs st_wrong_pair) (defBody st_wrong_pair) (defScope st_wrong_pair) [] [] fa fd) : Binds K fd ["pairs", "points"] [] := F.bindsN fun _ _ _ _ _ _ us hl => match us, hl with | [_, _], _ => rfl
theorem c_wrong_pair {P : Program} {w : World} {K : PySem.W.Frag} {mg : Str → Option Value} {base : Heap} {fa : Addr} {fd : FuncData} (B : FreeB mg) (C_is_pair : CalD P w K mg base 2 "is_pair" ["thing", "points"] (spF mg fs_is_pair)) (F : FunD K "wrong_pair" "wrong_pair" (defArgs st_wrong_pair) (defBody st_wrong_pair) (defScope st_wrong_pair) [] [] fa fd) (m : mg "wrong_pair" = some (.ref fa)) : CalD P w K mg base 3 "wrong_pair" ["pairs", "points"] (spF mg fs_wrong_pair) := ⟨fa, fd, g_wrong_pair B C_is_pair F, m, F.kp, b_wrong_pair F⟩
abbrev st_reached_in : Stmt := top 14
theorem sc_reached_in : FnScope ["points", "pairs", "seen", "waiting", "here", "one", "two", "other"] ["points", "pairs"] (defScope st_reached_in) := ⟨rfl, rfl, rfl, by decide +kernel, rfl, by decide +kernel, by decide +kernel⟩
theorem d_reached_in {P : Program} {w : World} {K : PySem.W.Frag} {mg : Str → Option Value} {base : Heap} {f : Addr} {cdv : Value} {A : Around} {outer : List Env} {s : Shared} {H : Hp} {E : XK} (B : FreeB mg) (hg : (A.deeper (envOfC "reached_in" (defScope st_reached_in) s.heap.objs.size f cdv)).guards = some []) (hr : Room 0 (A.deeper (envOfC "reached_in" (defScope st_reached_in) s.heap.objs.size f cdv))) :
    PWSs (bX P w K mg base ["points", "pairs", "seen", "waiting", "here", "one", "two", "other"] "reached_in" (defScope st_reached_in) f cdv A outer s H E) E (defBody st_reached_in) w_reached_in :=
  pws_cons (pws_par 2 3 (pm_own (pn_disp1 (pw_int) (pw_bl))) (pm_own (pn_lst (pwa_cons (pw_int) (pwa_nil)))) (by decide) rfl sc_reached_in.nd rfl) (pws_cons (pws_while own_fn (pwt_neV (u64 hr) (pv_name 3) (pw_lst (pwa_nil))) (pws_cons (pws_set 4 (pw_pop 3) sc_reached_in.nd) (pws_one (pws_for own_fn rfl (pi_lst (pv_name 1)) (pg_tp (n := 2) rfl (pwg_cons (pg_nm 5 sc_reached_in.nd (by first | exact Or.inl rfl | exact Or.inr rfl)) (pwg_cons (pg_nm 6 sc_reached_in.nd (by first | exact Or.inl rfl | exact Or.inr rfl)) (pwg_nil))) (len_name (len_name (len_nil)))) (pws_one (pws_for own_fn rfl (pi_lst (pv_of (pw_ifExp (pwt_cmp (o_eq (u64 hr)) (pw_var 5) (pw_var 4)) (pw_lst (pwa_cons (pw_var 6) (pwa_nil))) (pw_ifExp (pwt_cmp (o_eq (u64 hr)) (pw_var 6) (pw_var 4)) (pw_lst (pwa_cons (pw_var 5) (pwa_nil))) (pw_lst (pwa_nil)))))) (pg_nm 7 sc_reached_in.nd (by first | exact Or.inl rfl | exact Or.inr rfl)) (pws_one (pws_if (pwt_notin (u65 hr) (pw_var 7) (pv_name 2)) (pws_cons (pws_put 2 (u1 hr) (pw_bl) (pw_var 7)) (pws_one (pws_expr (pw_app 3 (pw_var 7))))) (pws_nil))))))))) (pws_one (pws_ret (pw_var 2))))
theorem g_reached_in {P : Program} {w : World} {K : PySem.W.Frag} {mg : Str → Option Value} {base : Heap} {fa : Addr} {fd : FuncData} (B : FreeB mg)  (F : FunD K "reached_in" "reached_in" (defArgs st_reached_in) (defBody st_reached_in) (defScope st_reached_in) [] [] fa fd) : FnG P w K mg base 1 fa fd ["points", "pairs"] (spF mg fs_reached_in) :=
  fn_pure F sc_reached_in (fun ds Q ex h => by obtain ⟨_, _, rfl, _⟩ := h; rfl) (fun cdv A outer s H E hg hr => d_reached_in B  hg hr) p_reached_in
theorem b_reached_in {K : PySem.W.Frag} {fa : Addr} {fd : FuncData} (F : FunD K "reached_in" "reached_in" (defArgs st_reached_in) (defBody st_reached_in) (defScope st_reached_in) [] [] fa fd) : Binds K fd ["points", "pairs"] [] := F.bindsN fun _ _ _ _ _ _ us hl => match us, hl with | [_, _], _ => rfl
theorem c_reached_in {P : Program} {w : World} {K : PySem.W.Frag} {mg : Str → Option Value} {base : Heap} {fa : Addr} {fd : FuncData} (B : FreeB mg)  (F : FunD K "reached_in" "reached_in" (defArgs st_reached_in) (defBody st_reached_in) (defScope st_reached_in) [] [] fa fd) (m : mg "reached_in" = some (.ref fa)) : CalD P w K mg base 1 "reached_in" ["points", "pairs"] (spF mg fs_reached_in) := ⟨fa, fd, g_reached_in B  F, m, F.kp, b_reached_in F⟩
abbrev st_check_hanging : Stmt := top 15
theorem sc_check_hanging : FnScope ["points", "pairs", "seen", "away", "point"] ["points", "pairs"] (defScope st_check_hanging) := ⟨rfl, rfl, rfl, by decide +kernel, rfl, by decide +kernel, by decide +kernel⟩
theorem d_check_hanging {P : Program} {w : World} {K : PySem.W.Frag} {mg : Str → Option Value} {base : Heap} {f : Addr} {cdv : Value} {A : Around} {outer : List Env} {s : Shared} {H : Hp} {E : XK} (B : FreeB mg) (C_reached_in : CalD P w K mg base 1 "reached_in" ["points", "pairs"] (spF mg fs_reached_in)) (hg : (A.deeper (envOfC "check_hanging" (defScope st_check_hanging) s.heap.objs.size f cdv)).guards = some []) (hr : Room 1 (A.deeper (envOfC "check_hanging" (defScope st_check_hanging) s.heap.objs.size f cdv))) :
    PWSs (bX P w K mg base ["points", "pairs", "seen", "away", "point"] "check_hanging" (defScope st_check_hanging) f cdv A outer s H E) E (defBody st_check_hanging) w_check_hanging :=
  pws_cons (pws_set 2 (pw_cd C_reached_in hg hr pass_fn (pwa_cons (pw_var 0) (pwa_cons (pw_var 1) (pwa_nil)))) sc_check_hanging.nd) (pws_cons (pws_setLc 3 (own := [("point", 4)]) rfl sc_check_hanging.nd (blkOk_by (by kernel_rfl)) (pi_rng2 B.range (pw_int) (pw_bin o_add (pw_var 0) (pw_int))) (fun _ _ _ _ _ => pg_nm 4 sc_check_hanging.nd (by first | exact Or.inl rfl | exact Or.inr rfl)) (fun _ _ _ _ _ => pwts_one (pwt_notin (u65 hr) (pw_var 4) (pv_name 2))) (fun _ _ _ _ _ => pw_var 4) (by decide) rfl) (pws_one (pws_if (pwt_cmp (o_ne (u64 hr)) (pw_var 3) (pw_lst (pwa_nil))) (pws_one (pws_never)) (pws_nil))))
theorem g_check_hanging {P : Program} {w : World} {K : PySem.W.Frag} {mg : Str → Option Value} {base : Heap} {fa : Addr} {fd : FuncData} (B : FreeB mg) (C_reached_in : CalD P w K mg base 1 "reached_in" ["points", "pairs"] (spF mg fs_reached_in)) (F : FunD K "check_hanging" "check_hanging" (defArgs st_check_hanging) (defBody st_check_hanging) (defScope st_check_hanging) [] [] fa fd) : FnG P w K mg base 2 fa fd ["points", "pairs"] (spF mg fs_check_hanging) :=
  fn_pure F sc_check_hanging (fun ds Q ex h => by obtain ⟨_, _, rfl, _⟩ := h; rfl) (fun cdv A outer s H E hg hr => d_check_hanging B C_reached_in hg hr) p_check_hanging
theorem b_check_hanging {K : PySem.W.Frag} {fa : Addr} {fd : FuncData} (F : FunD K "check_hanging" "check_hanging" (defArgs st_check_hanging) (defBody st_check_hanging) (defScope st_check_hanging) [] [] fa fd) : Binds K fd ["points", "pairs"] [] := F.bindsN fun _ _ _ _ _ _ us hl => match us, hl with | [_, _], _ => rfl
theorem c_check_hanging {P : Program} {w : World} {K : PySem.W.Frag} {mg : Str → Option Value} {base : Heap} {fa : Addr} {fd : FuncData} (B : FreeB mg) (C_reached_in : CalD P w K mg base 1 "reached_in" ["points", "pairs"] (spF mg fs_reached_in)) (F : FunD K "check_hanging" "check_hanging" (defArgs st_check_hanging) (defBody st_check_hanging) (defScope st_check_hanging) [] [] fa fd) (m : mg "check_hanging" = some (.ref fa)) : CalD P w K mg base 2 "check_hanging" ["points", "pairs"] (spF mg fs_check_hanging) := ⟨fa, fd, g_check_hanging B C_reached_in F, m, F.kp, b_check_hanging F⟩
abbrev st_check_arrows : Stmt := top 16
theorem sc_check_arrows : FnScope ["arrows", "points", "wrong"] ["arrows", "points"] (defScope st_check_arrows) := ⟨rfl, rfl, rfl, by decide +kernel, rfl, by decide +kernel, by decide +kernel⟩
theorem d_check_arrows {P : Program} {w : World} {K : PySem.W.Frag} {mg : Str → Option Value} {base : Heap} {f : Addr} {cdv : Value} {A : Around} {outer : List Env} {s : Shared} {H : Hp} {E : XK} (B : FreeB mg) (g_MOST_LINES : ∃ t, mg "MOST_LINES" = some (.int 30 t)) (C_wrong_pair : CalD P w K mg base 3 "wrong_pair" ["pairs", "points"] (spF mg fs_wrong_pair)) (C_check_hanging : CalD P w K mg base 2 "check_hanging" ["points", "pairs"] (spF mg fs_check_hanging)) (hg : (A.deeper (envOfC "check_arrows" (defScope st_check_arrows) s.heap.objs.size f cdv)).guards = some []) (hr : Room 3 (A.deeper (envOfC "check_arrows" (defScope st_check_arrows) s.heap.objs.size f cdv))) :
    PWSs (bX P w K mg base ["arrows", "points", "wrong"] "check_arrows" (defScope st_check_arrows) f cdv A outer s H E) E (defBody st_check_arrows) w_check_arrows :=
  pws_cons (pws_if (pwt_of (pww_or (pwt_not (pwt_val (pw_isi kit_list B.isinstance B.list rfl rfl (pv_name 0)))) (pww_or1 (pwt_cmp o_gt (pw_b1 o_len B.len rfl (pv_name 0)) (pw_gint g_MOST_LINES))))) (pws_one (pws_never)) (pws_nil)) (pws_cons (pws_set 2 (pw_cd C_wrong_pair hg hr pass_fn (pwa_cons (pw_var 0) (pwa_cons (pw_var 1) (pwa_nil)))) sc_check_arrows.nd) (pws_cons (pws_if (pwt_cmp o_notN (pw_var 2) (pw_non)) (pws_one (pws_never)) (pws_nil)) (pws_one (pws_expr (pw_cd C_check_hanging hg hr pass_fn (pwa_cons (pw_var 1) (pwa_cons (pw_var 0) (pwa_nil))))))))
theorem g_check_arrows {P : Program} {w : World} {K : PySem.W.Frag} {mg : Str → Option Value} {base : Heap} {fa : Addr} {fd : FuncData} (B : FreeB mg) (g_MOST_LINES : ∃ t, mg "MOST_LINES" = some (.int 30 t)) (C_wrong_pair : CalD P w K mg base 3 "wrong_pair" ["pairs", "points"] (spF mg fs_wrong_pair)) (C_check_hanging : CalD P w K mg base 2 "check_hanging" ["points", "pairs"] (spF mg fs_check_hanging)) (F : FunD K "check_arrows" "check_arrows" (defArgs st_check_arrows) (defBody st_check_arrows) (defScope st_check_arrows) [] [] fa fd) : FnG P w K mg base 4 fa fd ["arrows", "points"] (spF mg fs_check_arrows) :=
  fn_pure F sc_check_arrows (fun ds Q ex h => by obtain ⟨_, _, rfl, _⟩ := h; rfl) (fun cdv A outer s H E hg hr => d_check_arrows B g_MOST_LINES C_wrong_pair C_check_hanging hg hr) p_check_arrows
theorem b_check_arrows {K : PySem.W.Frag} {fa : Addr} {fd : FuncData} (F : FunD K "check_arrows" "check_arrows" (defArgs st_check_arrows) (defBody st_check_arrows) (defScope st_check_arrows) [] [] fa fd) : Binds K fd ["arrows", "points"] [] := F.bindsN fun _ _ _ _ _ _ us hl => match us, hl with | [_, _], _ => rfl
theorem c_check_arrows {P : Program} {w : World} {K : PySem.W.Frag} {mg : Str → Option Value} {base : Heap} {fa : Addr} {fd : FuncData} (B : FreeB mg) (g_MOST_LINES : ∃ t, mg "MOST_LINES" = some (.int 30 t)) (C_wrong_pair : CalD P w K mg base 3 "wrong_pair" ["pairs", "points"] (spF mg fs_wrong_pair)) (C_check_hanging : CalD P w K mg base 2 "check_hanging" ["points", "pairs"] (spF mg fs_check_hanging)) (F : FunD K "check_arrows" "check_arrows" (defArgs st_check_arrows) (defBody st_check_arrows) (defScope st_check_arrows) [] [] fa fd) (m : mg "check_arrows" = some (.ref fa)) : CalD P w K mg base 4 "check_arrows" ["arrows", "points"] (spF mg fs_check_arrows) := ⟨fa, fd, g_check_arrows B g_MOST_LINES C_wrong_pair C_check_hanging F, m, F.kp, b_check_arrows F⟩
abbrev st_check_both : Stmt := top 17
theorem sc_check_both : FnScope ["points", "arrows"] ["points", "arrows"] (defScope st_check_both) := ⟨rfl, rfl, rfl, by decide +kernel, rfl, by decide +kernel, by decide +kernel⟩
theorem d_check_both {P : Program} {w : World} {K : PySem.W.Frag} {mg : Str → Option Value} {base : Heap} {f : Addr} {cdv : Value} {A : Around} {outer : List Env} {s : Shared} {H : Hp} {E : XK} (B : FreeB mg) (C_check_points : CalD P w K mg base 3 "check_points" ["points"] (spF mg fs_check_points)) (C_check_arrows : CalD P w K mg base 4 "check_arrows" ["arrows", "points"] (spF mg fs_check_arrows)) (hg : (A.deeper (envOfC "check_both" (defScope st_check_both) s.heap.objs.size f cdv)).guards = some []) (hr : Room 4 (A.deeper (envOfC "check_both" (defScope st_check_both) s.heap.objs.size f cdv))) :
    PWSs (bX P w K mg base ["points", "arrows"] "check_both" (defScope st_check_both) f cdv A outer s H E) E (defBody st_check_both) w_check_both :=
  pws_cons (pws_expr (pw_cd C_check_points hg hr pass_fn (pwa_cons (pw_var 0) (pwa_nil)))) (pws_one (pws_expr (pw_cd C_check_arrows hg hr pass_fn (pwa_cons (pw_var 1) (pwa_cons (pw_var 0) (pwa_nil))))))
theorem g_check_both {P : Program} {w : World} {K : PySem.W.Frag} {mg : Str → Option Value} {base : Heap} {fa : Addr} {fd : FuncData} (B : FreeB mg) (C_check_points : CalD P w K mg base 3 "check_points" ["points"] (spF mg fs_check_points)) (C_check_arrows : CalD P w K mg base 4 "check_arrows" ["arrows", "points"] (spF mg fs_check_arrows)) (F : FunD K "check_both" "check_both" (defArgs st_check_both) (defBody st_check_both) (defScope st_check_both) [] [] fa fd) : FnG P w K mg base 5 fa fd ["points", "arrows"] (spF mg fs_check_both) :=
  fn_pure F sc_check_both (fun ds Q ex h => by obtain ⟨_, _, rfl, _⟩ := h; rfl) (fun cdv A outer s H E hg hr => d_check_both B C_check_points C_check_arrows hg hr) p_check_both
theorem b_check_both {K : PySem.W.Frag} {fa : Addr} {fd : FuncData} (F : FunD K "check_both" "check_both" (defArgs st_check_both) (defBody st_check_both) (defScope st_check_both) [] [] fa fd) : Binds K fd ["points", "arrows"] [] := F.bindsN fun _ _ _ _ _ _ us hl => match us, hl with | [_, _], _ => rfl
theorem c_check_both {P : Program} {w : World} {K : PySem.W.Frag} {mg : Str → Option Value} {base : Heap} {fa : Addr} {fd : FuncData} (B : FreeB mg) (C_check_points : CalD P w K mg base 3 "check_points" ["points"] (spF mg fs_check_points)) (C_check_arrows : CalD P w K mg base 4 "check_arrows" ["arrows", "points"] (spF mg fs_check_arrows)) (F : FunD K "check_both" "check_both" (defArgs st_check_both) (defBody st_check_both) (defScope st_check_both) [] [] fa fd) (m : mg "check_both" = some (.ref fa)) : CalD P w K mg base 5 "check_both" ["points", "arrows"] (spF mg fs_check_both) := ⟨fa, fd, g_check_both B C_check_points C_check_arrows F, m, F.kp, b_check_both F⟩
abbrev st_check_turns : Stmt := top 18
theorem sc_check_turns : FnScope ["turns", "points", "index", "point"] ["turns", "points"] (defScope st_check_turns) := ⟨rfl, rfl, rfl, by decide +kernel, rfl, by decide +kernel, by decide +kernel⟩
theorem d_check_turns {P : Program} {w : World} {K : PySem.W.Frag} {mg : Str → Option Value} {base : Heap} {f : Addr} {cdv : Value} {A : Around} {outer : List Env} {s : Shared} {H : Hp} {E : XK} (B : FreeB mg) (C_is_whole : CalD P w K mg base 1 "is_whole" ["thing"] (spF mg fs_is_whole)) (hg : (A.deeper (envOfC "check_turns" (defScope st_check_turns) s.heap.objs.size f cdv)).guards = some []) (hr : Room 1 (A.deeper (envOfC "check_turns" (defScope st_check_turns) s.heap.objs.size f cdv))) :
    PWSs (bX P w K mg base ["turns", "points", "index", "point"] "check_turns" (defScope st_check_turns) f cdv A outer s H E) E (defBody st_check_turns) w_check_turns :=
  pws_cons (pws_if (pwt_not (pwt_val (pw_isi kit_list B.isinstance B.list rfl rfl (pv_name 0)))) (pws_one (pws_never)) (pws_nil)) (pws_one (pws_for own_fn rfl (pi_en B.enumerate (pv_name 0)) (pg_tp (n := 2) rfl (pwg_cons (pg_nm 2 sc_check_turns.nd (by first | exact Or.inl rfl | exact Or.inr rfl)) (pwg_cons (pg_nm 3 sc_check_turns.nd (by first | exact Or.inl rfl | exact Or.inr rfl)) (pwg_nil))) (len_name (len_name (len_nil)))) (pws_one (pws_if (pwt_of (pww_or (pwt_not (pwt_val (pw_cd C_is_whole hg hr pass_fn (pwa_cons (pw_var 3) (pwa_nil))))) (pww_or1 (pwt_not (pwt_chain o_le o_le (pw_int) (pw_var 3) (pw_var 1)))))) (pws_one (pws_never)) (pws_nil)))))
theorem g_check_turns {P : Program} {w : World} {K : PySem.W.Frag} {mg : Str → Option Value} {base : Heap} {fa : Addr} {fd : FuncData} (B : FreeB mg) (C_is_whole : CalD P w K mg base 1 "is_whole" ["thing"] (spF mg fs_is_whole)) (F : FunD K "check_turns" "check_turns" (defArgs st_check_turns) (defBody st_check_turns) (defScope st_check_turns) [] [] fa fd) : FnG P w K mg base 2 fa fd ["turns", "points"] (spF mg fs_check_turns) :=
  fn_pure F sc_check_turns (fun ds Q ex h => by obtain ⟨_, _, rfl, _⟩ := h; rfl) (fun cdv A outer s H E hg hr => d_check_turns B C_is_whole hg hr) p_check_turns
theorem b_check_turns {K : PySem.W.Frag} {fa : Addr} {fd : FuncData} (F : FunD K "check_turns" "check_turns" (defArgs st_check_turns) (defBody st_check_turns) (defScope st_check_turns) [] [] fa fd) : Binds K fd ["turns", "points"] [] := F.bindsN fun _ _ _ _ _ _ us hl => match us, hl with | [_, _], _ => rfl
theorem c_check_turns {P : Program} {w : World} {K : PySem.W.Frag} {mg : Str → Option Value} {base : Heap} {fa : Addr} {fd : FuncData} (B : FreeB mg) (C_is_whole : CalD P w K mg base 1 "is_whole" ["thing"] (spF mg fs_is_whole)) (F : FunD K "check_turns" "check_turns" (defArgs st_check_turns) (defBody st_check_turns) (defScope st_check_turns) [] [] fa fd) (m : mg "check_turns" = some (.ref fa)) : CalD P w K mg base 2 "check_turns" ["turns", "points"] (spF mg fs_check_turns) := ⟨fa, fd, g_check_turns B C_is_whole F, m, F.kp, b_check_turns F⟩
abbrev st_may_in : Stmt := top 20
theorem sc_may_in : FnScope ["points", "arrows", "tails", "tail", "head", "point"] ["points", "arrows"] (defScope st_may_in) := ⟨rfl, rfl, rfl, by decide +kernel, rfl, by decide +kernel, by decide +kernel⟩
theorem d_may_in {P : Program} {w : World} {K : PySem.W.Frag} {mg : Str → Option Value} {base : Heap} {f : Addr} {cdv : Value} {A : Around} {outer : List Env} {s : Shared} {H : Hp} {E : XK} (B : FreeB mg) (hg : (A.deeper (envOfC "may_in" (defScope st_may_in) s.heap.objs.size f cdv)).guards = some []) (hr : Room 0 (A.deeper (envOfC "may_in" (defScope st_may_in) s.heap.objs.size f cdv))) :
    PWSs (bX P w K mg base ["points", "arrows", "tails", "tail", "head", "point"] "may_in" (defScope st_may_in) f cdv A outer s H E) E (defBody st_may_in) w_may_in :=
  pws_cons (pws_set 2 (pw_dc (own := [("tail", 3), ("head", 4)]) rfl sc_may_in.nd (blkOk_by (by kernel_rfl)) (pi_lst (pv_name 1)) (fun _ _ _ _ _ => pg_tp (n := 2) rfl (pwg_cons (pg_nm 3 sc_may_in.nd (by first | exact Or.inl rfl | exact Or.inr rfl)) (pwg_cons (pg_nm 4 sc_may_in.nd (by first | exact Or.inl rfl | exact Or.inr rfl)) (pwg_nil))) (len_name (len_name (len_nil)))) (fun _ _ _ _ _ => pwts_nil) (fun _ _ _ _ _ => pw_var 3) (fun _ _ _ _ _ => pw_bl) (by decide)) sc_may_in.nd) (pws_one (pws_ret (pw_lc (own := [("point", 5)]) rfl sc_may_in.nd (blkOk_by (by kernel_rfl)) (pi_rng2 B.range (pw_int) (pw_bin o_add (pw_var 0) (pw_int))) (fun _ _ _ _ _ => pg_nm 5 sc_may_in.nd (by first | exact Or.inl rfl | exact Or.inr rfl)) (fun _ _ _ _ _ => pwts_one (pwt_notin (u65 hr) (pw_var 5) (pv_name 2))) (fun _ _ _ _ _ => pw_var 5) (by decide))))
theorem g_may_in {P : Program} {w : World} {K : PySem.W.Frag} {mg : Str → Option Value} {base : Heap} {fa : Addr} {fd : FuncData} (B : FreeB mg)  (F : FunD K "may_in" "may_in" (defArgs st_may_in) (defBody st_may_in) (defScope st_may_in) [] [] fa fd) : FnG P w K mg base 1 fa fd ["points", "arrows"] (spF mg fs_may_in) :=
  fn_pure F sc_may_in (fun ds Q ex h => by obtain ⟨_, _, rfl, _⟩ := h; rfl) (fun cdv A outer s H E hg hr => d_may_in B  hg hr) p_may_in
theorem b_may_in {K : PySem.W.Frag} {fa : Addr} {fd : FuncData} (F : FunD K "may_in" "may_in" (defArgs st_may_in) (defBody st_may_in) (defScope st_may_in) [] [] fa fd) : Binds K fd ["points", "arrows"] [] := F.bindsN fun _ _ _ _ _ _ us hl => match us, hl with | [_, _], _ => rfl
theorem c_may_in {P : Program} {w : World} {K : PySem.W.Frag} {mg : Str → Option Value} {base : Heap} {fa : Addr} {fd : FuncData} (B : FreeB mg)  (F : FunD K "may_in" "may_in" (defArgs st_may_in) (defBody st_may_in) (defScope st_may_in) [] [] fa fd) (m : mg "may_in" = some (.ref fa)) : CalD P w K mg base 1 "may_in" ["points", "arrows"] (spF mg fs_may_in) := ⟨fa, fd, g_may_in B  F, m, F.kp, b_may_in F⟩
abbrev st_turned_in : Stmt := top 21
theorem sc_turned_in : FnScope ["arrows", "point", "tail", "head"] ["arrows", "point"] (defScope st_turned_in) := ⟨rfl, rfl, rfl, by decide +kernel, rfl, by decide +kernel, by decide +kernel⟩
theorem d_turned_in {P : Program} {w : World} {K : PySem.W.Frag} {mg : Str → Option Value} {base : Heap} {f : Addr} {cdv : Value} {A : Around} {outer : List Env} {s : Shared} {H : Hp} {E : XK} (B : FreeB mg) (hg : (A.deeper (envOfC "turned_in" (defScope st_turned_in) s.heap.objs.size f cdv)).guards = some []) (hr : Room 0 (A.deeper (envOfC "turned_in" (defScope st_turned_in) s.heap.objs.size f cdv))) :
    PWSs (bX P w K mg base ["arrows", "point", "tail", "head"] "turned_in" (defScope st_turned_in) f cdv A outer s H E) E (defBody st_turned_in) w_turned_in :=
  pws_one (pws_ret (pw_lc (own := [("tail", 2), ("head", 3)]) rfl sc_turned_in.nd (blkOk_by (by kernel_rfl)) (pi_lst (pv_name 0)) (fun _ _ _ _ _ => pg_tp (n := 2) rfl (pwg_cons (pg_nm 2 sc_turned_in.nd (by first | exact Or.inl rfl | exact Or.inr rfl)) (pwg_cons (pg_nm 3 sc_turned_in.nd (by first | exact Or.inl rfl | exact Or.inr rfl)) (pwg_nil))) (len_name (len_name (len_nil)))) (fun _ _ _ _ _ => pwts_nil) (fun _ _ _ _ _ => pw_ifExp (pwt_cmp (o_eq (u64 hr)) (pw_var 3) (pw_var 1)) (pw_lst (pwa_cons (pw_var 3) (pwa_cons (pw_var 2) (pwa_nil)))) (pw_lst (pwa_cons (pw_var 2) (pwa_cons (pw_var 3) (pwa_nil))))) (by decide)))
theorem g_turned_in {P : Program} {w : World} {K : PySem.W.Frag} {mg : Str → Option Value} {base : Heap} {fa : Addr} {fd : FuncData} (B : FreeB mg)  (F : FunD K "turned_in" "turned_in" (defArgs st_turned_in) (defBody st_turned_in) (defScope st_turned_in) [] [] fa fd) : FnG P w K mg base 1 fa fd ["arrows", "point"] (spF mg fs_turned_in) :=
  fn_pure F sc_turned_in (fun ds Q ex h => by obtain ⟨_, _, rfl, _⟩ := h; rfl) (fun cdv A outer s H E hg hr => d_turned_in B  hg hr) p_turned_in
theorem b_turned_in {K : PySem.W.Frag} {fa : Addr} {fd : FuncData} (F : FunD K "turned_in" "turned_in" (defArgs st_turned_in) (defBody st_turned_in) (defScope st_turned_in) [] [] fa fd) : Binds K fd ["arrows", "point"] [] := F.bindsN fun _ _ _ _ _ _ us hl => match us, hl with | [_, _], _ => rfl
theorem c_turned_in {P : Program} {w : World} {K : PySem.W.Frag} {mg : Str → Option Value} {base : Heap} {fa : Addr} {fd : FuncData} (B : FreeB mg)  (F : FunD K "turned_in" "turned_in" (defArgs st_turned_in) (defBody st_turned_in) (defScope st_turned_in) [] [] fa fd) (m : mg "turned_in" = some (.ref fa)) : CalD P w K mg base 1 "turned_in" ["arrows", "point"] (spF mg fs_turned_in) := ⟨fa, fd, g_turned_in B  F, m, F.kp, b_turned_in F⟩
abbrev st_after_in : Stmt := top 24
theorem sc_after_in : FnScope ["points", "arrows", "turns", "index", "point"] ["points", "arrows", "turns"] (defScope st_after_in) := ⟨rfl, rfl, rfl, by decide +kernel, rfl, by decide +kernel, by decide +kernel⟩
theorem d_after_in {P : Program} {w : World} {K : PySem.W.Frag} {mg : Str → Option Value} {base : Heap} {f : Addr} {cdv : Value} {A : Around} {outer : List Env} {s : Shared} {H : Hp} {E : XK} (B : FreeB mg) (C_may_in : CalD P w K mg base 1 "may_in" ["points", "arrows"] (spF mg fs_may_in)) (C_turned_in : CalD P w K mg base 1 "turned_in" ["arrows", "point"] (spF mg fs_turned_in)) (hg : (A.deeper (envOfC "after_in" (defScope st_after_in) s.heap.objs.size f cdv)).guards = some []) (hr : Room 1 (A.deeper (envOfC "after_in" (defScope st_after_in) s.heap.objs.size f cdv))) :
    PWSs (bX P w K mg base ["points", "arrows", "turns", "index", "point"] "after_in" (defScope st_after_in) f cdv A outer s H E) E (defBody st_after_in) w_after_in :=
  pws_cons (pws_for own_fn rfl (pi_en B.enumerate (pv_name 2)) (pg_tp (n := 2) rfl (pwg_cons (pg_nm 3 sc_after_in.nd (by first | exact Or.inl rfl | exact Or.inr rfl)) (pwg_cons (pg_nm 4 sc_after_in.nd (by first | exact Or.inl rfl | exact Or.inr rfl)) (pwg_nil))) (len_name (len_name (len_nil)))) (pws_cons (pws_if (pwt_notin (u65 hr) (pw_var 4) (pv_of (pw_cd C_may_in hg hr pass_fn (pwa_cons (pw_var 0) (pwa_cons (pw_var 1) (pwa_nil)))))) (pws_one (pws_ret (pw_tup (pwa_cons (pw_var 1) (pwa_cons (pw_var 3) (pwa_nil)))))) (pws_nil)) (pws_one (pws_set 1 (pw_cd C_turned_in hg hr pass_fn (pwa_cons (pw_var 1) (pwa_cons (pw_var 4) (pwa_nil)))) sc_after_in.nd)))) (pws_one (pws_ret (pw_tup (pwa_cons (pw_var 1) (pwa_cons (pw_non) (pwa_nil))))))
theorem g_after_in {P : Program} {w : World} {K : PySem.W.Frag} {mg : Str → Option Value} {base : Heap} {fa : Addr} {fd : FuncData} (B : FreeB mg) (C_may_in : CalD P w K mg base 1 "may_in" ["points", "arrows"] (spF mg fs_may_in)) (C_turned_in : CalD P w K mg base 1 "turned_in" ["arrows", "point"] (spF mg fs_turned_in)) (F : FunD K "after_in" "after_in" (defArgs st_after_in) (defBody st_after_in) (defScope st_after_in) [] [] fa fd) : FnG P w K mg base 2 fa fd ["points", "arrows", "turns"] (spF mg fs_after_in) :=
  fn_pure F sc_after_in (fun ds Q ex h => by obtain ⟨_, _, _, rfl, _⟩ := h; rfl) (fun cdv A outer s H E hg hr => d_after_in B C_may_in C_turned_in hg hr) p_after_in
theorem b_after_in {K : PySem.W.Frag} {fa : Addr} {fd : FuncData} (F : FunD K "after_in" "after_in" (defArgs st_after_in) (defBody st_after_in) (defScope st_after_in) [] [] fa fd) : Binds K fd ["points", "arrows", "turns"] [] := F.bindsN fun _ _ _ _ _ _ us hl => match us, hl with | [_, _, _], _ => rfl
theorem c_after_in {P : Program} {w : World} {K : PySem.W.Frag} {mg : Str → Option Value} {base : Heap} {fa : Addr} {fd : FuncData} (B : FreeB mg) (C_may_in : CalD P w K mg base 1 "may_in" ["points", "arrows"] (spF mg fs_may_in)) (C_turned_in : CalD P w K mg base 1 "turned_in" ["arrows", "point"] (spF mg fs_turned_in)) (F : FunD K "after_in" "after_in" (defArgs st_after_in) (defBody st_after_in) (defScope st_after_in) [] [] fa fd) (m : mg "after_in" = some (.ref fa)) : CalD P w K mg base 2 "after_in" ["points", "arrows", "turns"] (spF mg fs_after_in) := ⟨fa, fd, g_after_in B C_may_in C_turned_in F, m, F.kp, b_after_in F⟩
abbrev st_in_order : Stmt := top 19
theorem sc_in_order : FnScope ["arrows", "low", "high", "tail", "head", "one"] ["arrows"] (defScope st_in_order) := ⟨rfl, rfl, rfl, by decide +kernel, rfl, by decide +kernel, by decide +kernel⟩
theorem d_in_order {P : Program} {w : World} {K : PySem.W.Frag} {mg : Str → Option Value} {base : Heap} {f : Addr} {cdv : Value} {A : Around} {outer : List Env} {s : Shared} {H : Hp} {E : XK} (B : FreeB mg) (hg : (A.deeper (envOfC "in_order" (defScope st_in_order) s.heap.objs.size f cdv)).guards = some []) (hr : Room 0 (A.deeper (envOfC "in_order" (defScope st_in_order) s.heap.objs.size f cdv))) :
    PWSs (bX P w K mg base ["arrows", "low", "high", "tail", "head", "one"] "in_order" (defScope st_in_order) f cdv A outer s H E) E (defBody st_in_order) w_in_order :=
  pws_one (pws_ret (pw_lc (own := [("low", 1), ("high", 2), ("tail", 3), ("head", 4)]) rfl sc_in_order.nd (blkOk_by (by kernel_rfl)) (pi_lst (pv_of (pw_b1 (o_sorted (u64 hr)) B.sorted rfl (pv_of (pw_lc (own := [("one", 5)]) rfl sc_in_order.nd (blkOk_by (by kernel_rfl)) (pi_lst (pv_name 0)) (fun _ _ _ _ _ => pg_nm 5 sc_in_order.nd (by first | exact Or.inl rfl | exact Or.inr rfl)) (fun _ _ _ _ _ => pwts_nil) (fun _ _ _ _ _ => pw_tup (pwa_cons (pw_b1 (o_min rfl) B.min rfl (pv_name 5)) (pwa_cons (pw_b1 (o_max rfl) B.max rfl (pv_name 5)) (pwa_cons (pw_ix (u1 hr) (pv_name 5) (pw_int)) (pwa_cons (pw_ix (u1 hr) (pv_name 5) (pw_int)) (pwa_nil)))))) (by decide)))))) (fun _ _ _ _ _ => pg_tp (n := 4) rfl (pwg_cons (pg_nm 1 sc_in_order.nd (by first | exact Or.inl rfl | exact Or.inr rfl)) (pwg_cons (pg_nm 2 sc_in_order.nd (by first | exact Or.inl rfl | exact Or.inr rfl)) (pwg_cons (pg_nm 3 sc_in_order.nd (by first | exact Or.inl rfl | exact Or.inr rfl)) (pwg_cons (pg_nm 4 sc_in_order.nd (by first | exact Or.inl rfl | exact Or.inr rfl)) (pwg_nil))))) (len_name (len_name (len_name (len_name (len_nil)))))) (fun _ _ _ _ _ => pwts_nil) (fun _ _ _ _ _ => pw_lst (pwa_cons (pw_var 3) (pwa_cons (pw_var 4) (pwa_nil)))) (by decide)))
theorem g_in_order {P : Program} {w : World} {K : PySem.W.Frag} {mg : Str → Option Value} {base : Heap} {fa : Addr} {fd : FuncData} (B : FreeB mg)  (F : FunD K "in_order" "in_order" (defArgs st_in_order) (defBody st_in_order) (defScope st_in_order) [] [] fa fd) : FnG P w K mg base 1 fa fd ["arrows"] (spF mg fs_in_order) :=
  fn_pure F sc_in_order (fun ds Q ex h => by obtain ⟨_, rfl, _⟩ := h; rfl) (fun cdv A outer s H E hg hr => d_in_order B  hg hr) p_in_order
theorem b_in_order {K : PySem.W.Frag} {fa : Addr} {fd : FuncData} (F : FunD K "in_order" "in_order" (defArgs st_in_order) (defBody st_in_order) (defScope st_in_order) [] [] fa fd) : Binds K fd ["arrows"] [] := F.bindsN fun _ _ _ _ _ _ us hl => match us, hl with | [_], _ => rfl
theorem c_in_order {P : Program} {w : World} {K : PySem.W.Frag} {mg : Str → Option Value} {base : Heap} {fa : Addr} {fd : FuncData} (B : FreeB mg)  (F : FunD K "in_order" "in_order" (defArgs st_in_order) (defBody st_in_order) (defScope st_in_order) [] [] fa fd) (m : mg "in_order" = some (.ref fa)) : CalD P w K mg base 1 "in_order" ["arrows"] (spF mg fs_in_order) := ⟨fa, fd, g_in_order B  F, m, F.kp, b_in_order F⟩
abbrev st_after_turns : Stmt := top 25
theorem sc_after_turns : FnScope ["points", "arrows", "turns", "told", "wrong"] ["points", "arrows", "turns"] (defScope st_after_turns) := ⟨rfl, rfl, rfl, by decide +kernel, rfl, by decide +kernel, by decide +kernel⟩
theorem d_after_turns {P : Program} {w : World} {K : PySem.W.Frag} {mg : Str → Option Value} {base : Heap} {f : Addr} {cdv : Value} {A : Around} {outer : List Env} {s : Shared} {H : Hp} {E : XK} (B : FreeB mg) (C_check_both : CalD P w K mg base 5 "check_both" ["points", "arrows"] (spF mg fs_check_both)) (C_check_turns : CalD P w K mg base 2 "check_turns" ["turns", "points"] (spF mg fs_check_turns)) (C_after_in : CalD P w K mg base 2 "after_in" ["points", "arrows", "turns"] (spF mg fs_after_in)) (C_in_order : CalD P w K mg base 1 "in_order" ["arrows"] (spF mg fs_in_order)) (hg : (A.deeper (envOfC "after_turns" (defScope st_after_turns) s.heap.objs.size f cdv)).guards = some []) (hr : Room 5 (A.deeper (envOfC "after_turns" (defScope st_after_turns) s.heap.objs.size f cdv))) :
    PWSs (bX P w K mg base ["points", "arrows", "turns", "told", "wrong"] "after_turns" (defScope st_after_turns) f cdv A outer s H E) E (defBody st_after_turns) w_after_turns :=
  pws_cons (pws_expr (pw_cd C_check_both hg hr pass_fn (pwa_cons (pw_var 0) (pwa_cons (pw_var 1) (pwa_nil))))) (pws_cons (pws_expr (pw_cd C_check_turns hg hr pass_fn (pwa_cons (pw_var 2) (pwa_cons (pw_var 0) (pwa_nil))))) (pws_cons (pws_asg (pw_cd C_after_in hg hr pass_fn (pwa_cons (pw_var 0) (pwa_cons (pw_var 1) (pwa_cons (pw_var 2) (pwa_nil))))) (pg_tp (n := 2) rfl (pwg_cons (pg_nm 3 sc_after_turns.nd (by first | exact Or.inl rfl | exact Or.inr rfl)) (pwg_cons (pg_nm 4 sc_after_turns.nd (by first | exact Or.inl rfl | exact Or.inr rfl)) (pwg_nil))) (len_name (len_name (len_nil))))) (pws_cons (pws_if (pwt_cmp o_notN (pw_var 4) (pw_non)) (pws_one (pws_never)) (pws_nil)) (pws_one (pws_ret (pw_cd C_in_order hg hr pass_fn (pwa_cons (pw_var 3) (pwa_nil))))))))
theorem g_after_turns {P : Program} {w : World} {K : PySem.W.Frag} {mg : Str → Option Value} {base : Heap} {fa : Addr} {fd : FuncData} (B : FreeB mg) (C_check_both : CalD P w K mg base 5 "check_both" ["points", "arrows"] (spF mg fs_check_both)) (C_check_turns : CalD P w K mg base 2 "check_turns" ["turns", "points"] (spF mg fs_check_turns)) (C_after_in : CalD P w K mg base 2 "after_in" ["points", "arrows", "turns"] (spF mg fs_after_in)) (C_in_order : CalD P w K mg base 1 "in_order" ["arrows"] (spF mg fs_in_order)) (F : FunD K "after_turns" "after_turns" (defArgs st_after_turns) (defBody st_after_turns) (defScope st_after_turns) [] [] fa fd) : FnG P w K mg base 6 fa fd ["points", "arrows", "turns"] (spF mg fs_after_turns) :=
  fn_pure F sc_after_turns (fun ds Q ex h => by obtain ⟨_, _, _, rfl, _⟩ := h; rfl) (fun cdv A outer s H E hg hr => d_after_turns B C_check_both C_check_turns C_after_in C_in_order hg hr) p_after_turns
theorem b_after_turns {K : PySem.W.Frag} {fa : Addr} {fd : FuncData} (F : FunD K "after_turns" "after_turns" (defArgs st_after_turns) (defBody st_after_turns) (defScope st_after_turns) [] [] fa fd) : Binds K fd ["points", "arrows", "turns"] [] := F.bindsN fun _ _ _ _ _ _ us hl => match us, hl with | [_, _, _], _ => rfl
theorem c_after_turns {P : Program} {w : World} {K : PySem.W.Frag} {mg : Str → Option Value} {base : Heap} {fa : Addr} {fd : FuncData} (B : FreeB mg) (C_check_both : CalD P w K mg base 5 "check_both" ["points", "arrows"] (spF mg fs_check_both)) (C_check_turns : CalD P w K mg base 2 "check_turns" ["turns", "points"] (spF mg fs_check_turns)) (C_after_in : CalD P w K mg base 2 "after_in" ["points", "arrows", "turns"] (spF mg fs_after_in)) (C_in_order : CalD P w K mg base 1 "in_order" ["arrows"] (spF mg fs_in_order)) (F : FunD K "after_turns" "after_turns" (defArgs st_after_turns) (defBody st_after_turns) (defScope st_after_turns) [] [] fa fd) (m : mg "after_turns" = some (.ref fa)) : CalD P w K mg base 6 "after_turns" ["points", "arrows", "turns"] (spF mg fs_after_turns) := ⟨fa, fd, g_after_turns B C_check_both C_check_turns C_after_in C_in_order F, m, F.kp, b_after_turns F⟩
abbrev st_heads_in : Stmt := top 27
theorem sc_heads_in : FnScope ["arrows", "one"] ["arrows"] (defScope st_heads_in) := ⟨rfl, rfl, rfl, by decide +kernel, rfl, by decide +kernel, by decide +kernel⟩
theorem d_heads_in {P : Program} {w : World} {K : PySem.W.Frag} {mg : Str → Option Value} {base : Heap} {f : Addr} {cdv : Value} {A : Around} {outer : List Env} {s : Shared} {H : Hp} {E : XK} (B : FreeB mg) (hg : (A.deeper (envOfC "heads_in" (defScope st_heads_in) s.heap.objs.size f cdv)).guards = some []) (hr : Room 0 (A.deeper (envOfC "heads_in" (defScope st_heads_in) s.heap.objs.size f cdv))) :
    PWSs (bX P w K mg base ["arrows", "one"] "heads_in" (defScope st_heads_in) f cdv A outer s H E) E (defBody st_heads_in) w_heads_in :=
  pws_one (pws_ret (pw_dcT (own := [("one", 1)]) (Nat.lt_of_succ_lt (u1 hr)) rfl sc_heads_in.nd (blkOk_by (by kernel_rfl)) (pi_lst (pv_name 0)) (fun _ _ _ _ _ => pg_nm 1 sc_heads_in.nd (by first | exact Or.inl rfl | exact Or.inr rfl)) (fun _ _ _ _ _ => pwts_nil) (fun _ _ _ _ _ => pw_tup (pwa_cons (pw_b1 (o_min rfl) B.min rfl (pv_name 1)) (pwa_cons (pw_b1 (o_max rfl) B.max rfl (pv_name 1)) (pwa_nil)))) (fun _ _ _ _ _ => pw_ix (u1 hr) (pv_name 1) (pw_int)) (by decide)))
theorem g_heads_in {P : Program} {w : World} {K : PySem.W.Frag} {mg : Str → Option Value} {base : Heap} {fa : Addr} {fd : FuncData} (B : FreeB mg)  (F : FunD K "heads_in" "heads_in" (defArgs st_heads_in) (defBody st_heads_in) (defScope st_heads_in) [] [] fa fd) : FnG P w K mg base 1 fa fd ["arrows"] (spF mg fs_heads_in) :=
  fn_pure F sc_heads_in (fun ds Q ex h => by obtain ⟨_, rfl, _⟩ := h; rfl) (fun cdv A outer s H E hg hr => d_heads_in B  hg hr) p_heads_in
theorem b_heads_in {K : PySem.W.Frag} {fa : Addr} {fd : FuncData} (F : FunD K "heads_in" "heads_in" (defArgs st_heads_in) (defBody st_heads_in) (defScope st_heads_in) [] [] fa fd) : Binds K fd ["arrows"] [] := F.bindsN fun _ _ _ _ _ _ us hl => match us, hl with | [_], _ => rfl
theorem c_heads_in {P : Program} {w : World} {K : PySem.W.Frag} {mg : Str → Option Value} {base : Heap} {fa : Addr} {fd : FuncData} (B : FreeB mg)  (F : FunD K "heads_in" "heads_in" (defArgs st_heads_in) (defBody st_heads_in) (defScope st_heads_in) [] [] fa fd) (m : mg "heads_in" = some (.ref fa)) : CalD P w K mg base 1 "heads_in" ["arrows"] (spF mg fs_heads_in) := ⟨fa, fd, g_heads_in B  F, m, F.kp, b_heads_in F⟩
abbrev st_check_goal : Stmt := top 28
theorem sc_check_goal : FnScope ["goal", "arrows", "points", "lines", "index", "one"] ["goal", "arrows", "points"] (defScope st_check_goal) := ⟨rfl, rfl, rfl, by decide +kernel, rfl, by decide +kernel, by decide +kernel⟩
theorem d_check_goal {P : Program} {w : World} {K : PySem.W.Frag} {mg : Str → Option Value} {base : Heap} {f : Addr} {cdv : Value} {A : Around} {outer : List Env} {s : Shared} {H : Hp} {E : XK} (B : FreeB mg) (C_check_arrows : CalD P w K mg base 4 "check_arrows" ["arrows", "points"] (spF mg fs_check_arrows)) (C_heads_in : CalD P w K mg base 1 "heads_in" ["arrows"] (spF mg fs_heads_in)) (hg : (A.deeper (envOfC "check_goal" (defScope st_check_goal) s.heap.objs.size f cdv)).guards = some []) (hr : Room 4 (A.deeper (envOfC "check_goal" (defScope st_check_goal) s.heap.objs.size f cdv))) :
    PWSs (bX P w K mg base ["goal", "arrows", "points", "lines", "index", "one"] "check_goal" (defScope st_check_goal) f cdv A outer s H E) E (defBody st_check_goal) w_check_goal :=
  pws_cons (pws_expr (pw_cd C_check_arrows hg hr pass_fn (pwa_cons (pw_var 0) (pwa_cons (pw_var 2) (pwa_nil))))) (pws_cons (pws_set 3 (pw_cd C_heads_in hg hr pass_fn (pwa_cons (pw_var 1) (pwa_nil))) sc_check_goal.nd) (pws_cons (pws_for own_fn rfl (pi_en B.enumerate (pv_name 0)) (pg_tp (n := 2) rfl (pwg_cons (pg_nm 4 sc_check_goal.nd (by first | exact Or.inl rfl | exact Or.inr rfl)) (pwg_cons (pg_nm 5 sc_check_goal.nd (by first | exact Or.inl rfl | exact Or.inr rfl)) (pwg_nil))) (len_name (len_name (len_nil)))) (pws_one (pws_if (pwt_notin (u65 hr) (pw_tup (pwa_cons (pw_b1 (o_min rfl) B.min rfl (pv_name 5)) (pwa_cons (pw_b1 (o_max rfl) B.max rfl (pv_name 5)) (pwa_nil)))) (pv_name 3)) (pws_one (pws_never)) (pws_nil)))) (pws_one (pws_if (pwt_cmp o_lt (pw_b1 o_len B.len rfl (pv_name 0)) (pw_b1 o_len B.len rfl (pv_name 1))) (pws_one (pws_never)) (pws_nil)))))
theorem g_check_goal {P : Program} {w : World} {K : PySem.W.Frag} {mg : Str → Option Value} {base : Heap} {fa : Addr} {fd : FuncData} (B : FreeB mg) (C_check_arrows : CalD P w K mg base 4 "check_arrows" ["arrows", "points"] (spF mg fs_check_arrows)) (C_heads_in : CalD P w K mg base 1 "heads_in" ["arrows"] (spF mg fs_heads_in)) (F : FunD K "check_goal" "check_goal" (defArgs st_check_goal) (defBody st_check_goal) (defScope st_check_goal) [] [] fa fd) : FnG P w K mg base 5 fa fd ["goal", "arrows", "points"] (spF mg fs_check_goal) :=
  fn_pure F sc_check_goal (fun ds Q ex h => by obtain ⟨_, _, _, rfl, _⟩ := h; rfl) (fun cdv A outer s H E hg hr => d_check_goal B C_check_arrows C_heads_in hg hr) p_check_goal
theorem b_check_goal {K : PySem.W.Frag} {fa : Addr} {fd : FuncData} (F : FunD K "check_goal" "check_goal" (defArgs st_check_goal) (defBody st_check_goal) (defScope st_check_goal) [] [] fa fd) : Binds K fd ["goal", "arrows", "points"] [] := F.bindsN fun _ _ _ _ _ _ us hl => match us, hl with | [_, _, _], _ => rfl
theorem c_check_goal {P : Program} {w : World} {K : PySem.W.Frag} {mg : Str → Option Value} {base : Heap} {fa : Addr} {fd : FuncData} (B : FreeB mg) (C_check_arrows : CalD P w K mg base 4 "check_arrows" ["arrows", "points"] (spF mg fs_check_arrows)) (C_heads_in : CalD P w K mg base 1 "heads_in" ["arrows"] (spF mg fs_heads_in)) (F : FunD K "check_goal" "check_goal" (defArgs st_check_goal) (defBody st_check_goal) (defScope st_check_goal) [] [] fa fd) (m : mg "check_goal" = some (.ref fa)) : CalD P w K mg base 5 "check_goal" ["goal", "arrows", "points"] (spF mg fs_check_goal) := ⟨fa, fd, g_check_goal B C_check_arrows C_heads_in F, m, F.kp, b_check_goal F⟩
abbrev st_check_two : Stmt := top 33
theorem sc_check_two : FnScope ["points", "arrows", "goal"] ["points", "arrows", "goal"] (defScope st_check_two) := ⟨rfl, rfl, rfl, by decide +kernel, rfl, by decide +kernel, by decide +kernel⟩
theorem d_check_two {P : Program} {w : World} {K : PySem.W.Frag} {mg : Str → Option Value} {base : Heap} {f : Addr} {cdv : Value} {A : Around} {outer : List Env} {s : Shared} {H : Hp} {E : XK} (B : FreeB mg) (C_check_both : CalD P w K mg base 5 "check_both" ["points", "arrows"] (spF mg fs_check_both)) (C_check_goal : CalD P w K mg base 5 "check_goal" ["goal", "arrows", "points"] (spF mg fs_check_goal)) (hg : (A.deeper (envOfC "check_two" (defScope st_check_two) s.heap.objs.size f cdv)).guards = some []) (hr : Room 5 (A.deeper (envOfC "check_two" (defScope st_check_two) s.heap.objs.size f cdv))) :
    PWSs (bX P w K mg base ["points", "arrows", "goal"] "check_two" (defScope st_check_two) f cdv A outer s H E) E (defBody st_check_two) w_check_two :=
  pws_cons (pws_expr (pw_cd C_check_both hg hr pass_fn (pwa_cons (pw_var 0) (pwa_cons (pw_var 1) (pwa_nil))))) (pws_one (pws_expr (pw_cd C_check_goal hg hr pass_fn (pwa_cons (pw_var 2) (pwa_cons (pw_var 1) (pwa_cons (pw_var 0) (pwa_nil)))))))
theorem g_check_two {P : Program} {w : World} {K : PySem.W.Frag} {mg : Str → Option Value} {base : Heap} {fa : Addr} {fd : FuncData} (B : FreeB mg) (C_check_both : CalD P w K mg base 5 "check_both" ["points", "arrows"] (spF mg fs_check_both)) (C_check_goal : CalD P w K mg base 5 "check_goal" ["goal", "arrows", "points"] (spF mg fs_check_goal)) (F : FunD K "check_two" "check_two" (defArgs st_check_two) (defBody st_check_two) (defScope st_check_two) [] [] fa fd) : FnG P w K mg base 6 fa fd ["points", "arrows", "goal"] (spF mg fs_check_two) :=
  fn_pure F sc_check_two (fun ds Q ex h => by obtain ⟨_, _, _, rfl, _⟩ := h; rfl) (fun cdv A outer s H E hg hr => d_check_two B C_check_both C_check_goal hg hr) p_check_two
theorem b_check_two {K : PySem.W.Frag} {fa : Addr} {fd : FuncData} (F : FunD K "check_two" "check_two" (defArgs st_check_two) (defBody st_check_two) (defScope st_check_two) [] [] fa fd) : Binds K fd ["points", "arrows", "goal"] [] := F.bindsN fun _ _ _ _ _ _ us hl => match us, hl with | [_, _, _], _ => rfl
theorem c_check_two {P : Program} {w : World} {K : PySem.W.Frag} {mg : Str → Option Value} {base : Heap} {fa : Addr} {fd : FuncData} (B : FreeB mg) (C_check_both : CalD P w K mg base 5 "check_both" ["points", "arrows"] (spF mg fs_check_both)) (C_check_goal : CalD P w K mg base 5 "check_goal" ["goal", "arrows", "points"] (spF mg fs_check_goal)) (F : FunD K "check_two" "check_two" (defArgs st_check_two) (defBody st_check_two) (defScope st_check_two) [] [] fa fd) (m : mg "check_two" = some (.ref fa)) : CalD P w K mg base 6 "check_two" ["points", "arrows", "goal"] (spF mg fs_check_two) := ⟨fa, fd, g_check_two B C_check_both C_check_goal F, m, F.kp, b_check_two F⟩
abbrev st_steps_in : Stmt := top 29
theorem sc_steps_in : FnScope ["arrows", "goal", "heads", "told", "tail", "head", "more"] ["arrows", "goal"] (defScope st_steps_in) := ⟨rfl, rfl, rfl, by decide +kernel, rfl, by decide +kernel, by decide +kernel⟩
theorem d_steps_in {P : Program} {w : World} {K : PySem.W.Frag} {mg : Str → Option Value} {base : Heap} {f : Addr} {cdv : Value} {A : Around} {outer : List Env} {s : Shared} {H : Hp} {E : XK} (B : FreeB mg) (C_heads_in : CalD P w K mg base 1 "heads_in" ["arrows"] (spF mg fs_heads_in)) (hg : (A.deeper (envOfC "steps_in" (defScope st_steps_in) s.heap.objs.size f cdv)).guards = some []) (hr : Room 1 (A.deeper (envOfC "steps_in" (defScope st_steps_in) s.heap.objs.size f cdv))) :
    PWSs (bX P w K mg base ["arrows", "goal", "heads", "told", "tail", "head", "more"] "steps_in" (defScope st_steps_in) f cdv A outer s H E) E (defBody st_steps_in) w_steps_in :=
  pws_cons (pws_par 2 3 (pm_dat (pw_cd C_heads_in hg hr pass_fn (pwa_cons (pw_var 1) (pwa_nil)))) (pm_own (pn_dt)) (by decide) rfl sc_steps_in.nd rfl) (pws_cons (pws_for own_fn rfl (pi_lst (pv_name 0)) (pg_tp (n := 2) rfl (pwg_cons (pg_nm 4 sc_steps_in.nd (by first | exact Or.inl rfl | exact Or.inr rfl)) (pwg_cons (pg_nm 5 sc_steps_in.nd (by first | exact Or.inl rfl | exact Or.inr rfl)) (pwg_nil))) (len_name (len_name (len_nil)))) (pws_cons (pws_set 6 (pw_t1 o_int B.int rfl (pv_of (pw_cmp (o_eq (u64 hr)) (pw_ix (u1 hr) (pv_name 2) (pw_tup (pwa_cons (pw_b2 (o_min2 rfl) B.min rfl (pw_var 4) (pw_var 5)) (pwa_cons (pw_b2 (o_max2 rfl) B.max rfl (pw_var 4) (pw_var 5)) (pwa_nil))))) (pw_var 4)))) sc_steps_in.nd) (pws_one (pws_put2 3 rfl (u1 hr) (pw_tup (pwa_cons (pw_var 6) (pwa_cons (pw_bin o_sub (pw_int) (pw_var 6)) (pwa_nil)))) (pw_tup (pwa_cons (pw_var 4) (pwa_cons (pw_var 5) (pwa_nil)))) (pw_tup (pwa_cons (pw_var 5) (pwa_cons (pw_var 4) (pwa_nil)))))))) (pws_one (pws_ret (pw_var 3))))
theorem g_steps_in {P : Program} {w : World} {K : PySem.W.Frag} {mg : Str → Option Value} {base : Heap} {fa : Addr} {fd : FuncData} (B : FreeB mg) (C_heads_in : CalD P w K mg base 1 "heads_in" ["arrows"] (spF mg fs_heads_in)) (F : FunD K "steps_in" "steps_in" (defArgs st_steps_in) (defBody st_steps_in) (defScope st_steps_in) [] [] fa fd) : FnG P w K mg base 2 fa fd ["arrows", "goal"] (spF mg fs_steps_in) :=
  fn_pure F sc_steps_in (fun ds Q ex h => by obtain ⟨_, _, _, rfl, _⟩ := h; rfl) (fun cdv A outer s H E hg hr => d_steps_in B C_heads_in hg hr) p_steps_in
theorem b_steps_in {K : PySem.W.Frag} {fa : Addr} {fd : FuncData} (F : FunD K "steps_in" "steps_in" (defArgs st_steps_in) (defBody st_steps_in) (defScope st_steps_in) [] [] fa fd) : Binds K fd ["arrows", "goal"] [] := F.bindsN fun _ _ _ _ _ _ us hl => match us, hl with | [_, _], _ => rfl
theorem c_steps_in {P : Program} {w : World} {K : PySem.W.Frag} {mg : Str → Option Value} {base : Heap} {fa : Addr} {fd : FuncData} (B : FreeB mg) (C_heads_in : CalD P w K mg base 1 "heads_in" ["arrows"] (spF mg fs_heads_in)) (F : FunD K "steps_in" "steps_in" (defArgs st_steps_in) (defBody st_steps_in) (defScope st_steps_in) [] [] fa fd) (m : mg "steps_in" = some (.ref fa)) : CalD P w K mg base 2 "steps_in" ["arrows", "goal"] (spF mg fs_steps_in) := ⟨fa, fd, g_steps_in B C_heads_in F, m, F.kp, b_steps_in F⟩
abbrev st_differences_in : Stmt := top 30
theorem sc_differences_in : FnScope ["points", "arrows", "goal", "steps", "told", "waiting", "here", "one", "two", "point", "more"] ["points", "arrows", "goal"] (defScope st_differences_in) := ⟨rfl, rfl, rfl, by decide +kernel, rfl, by decide +kernel, by decide +kernel⟩
theorem d_differences_in {P : Program} {w : World} {K : PySem.W.Frag} {mg : Str → Option Value} {base : Heap} {f : Addr} {cdv : Value} {A : Around} {outer : List Env} {s : Shared} {H : Hp} {E : XK} (B : FreeB mg) (C_steps_in : CalD P w K mg base 2 "steps_in" ["arrows", "goal"] (spF mg fs_steps_in)) (hg : (A.deeper (envOfC "differences_in" (defScope st_differences_in) s.heap.objs.size f cdv)).guards = some []) (hr : Room 2 (A.deeper (envOfC "differences_in" (defScope st_differences_in) s.heap.objs.size f cdv))) :
    PWSs (bX P w K mg base ["points", "arrows", "goal", "steps", "told", "waiting", "here", "one", "two", "point", "more"] "differences_in" (defScope st_differences_in) f cdv A outer s H E) E (defBody st_differences_in) w_differences_in :=
  pws_cons (pws_asg3 3 4 5 (pm_dat (pw_cd C_steps_in hg hr pass_fn (pwa_cons (pw_var 1) (pwa_cons (pw_var 2) (pwa_nil))))) (pm_own (pn_disp1 (pw_int) (pw_int))) (pm_own (pn_lst (pwa_cons (pw_int) (pwa_nil)))) rfl sc_differences_in.nd) (pws_cons (pws_while own_fn (pwt_neV (u64 hr) (pv_name 5) (pw_lst (pwa_nil))) (pws_cons (pws_set 6 (pw_pop 5) sc_differences_in.nd) (pws_one (pws_forT 3 7 8 own_fn rfl sc_differences_in.nd (pws_one (pws_if (pwt_of (pww_and (pwt_cmp (o_eq (u64 hr)) (pw_var 7) (pw_var 6)) (pww_and1 (pwt_notin (u65 hr) (pw_var 8) (pv_name 4))))) (pws_cons (pws_put 4 (u1 hr) (pw_bin o_add (pw_ix (u1 hr) (pv_name 4) (pw_var 7)) (pw_ix (u1 hr) (pv_name 3) (pw_tup (pwa_cons (pw_var 7) (pwa_cons (pw_var 8) (pwa_nil)))))) (pw_var 8)) (pws_one (pws_expr (pw_app 5 (pw_var 8))))) (pws_nil))))))) (pws_cons (pws_if (pwt_val (pw_b1 (o_any rfl) B.any rfl (pv_of (pw_lcT (own := [("one", 7), ("two", 8), ("more", 10)]) 3 7 8 10 rfl sc_differences_in.nd (blkOk_by (by kernel_rfl)) (fun _ _ _ _ _ => pg3 rfl sc_differences_in.nd) (fun _ _ _ _ _ => pw_cmp (o_ne (u64 hr)) (pw_ix (u1 hr) (pv_name 4) (pw_var 8)) (pw_bin o_add (pw_ix (u1 hr) (pv_name 4) (pw_var 7)) (pw_var 10))) (by decide) (by decide) (by decide))))) (pws_one (pws_ret (pw_non))) (pws_nil)) (pws_one (pws_ret (pw_lc (own := [("point", 9)]) rfl sc_differences_in.nd (blkOk_by (by kernel_rfl)) (pi_rng2 B.range (pw_int) (pw_bin o_add (pw_var 0) (pw_int))) (fun _ _ _ _ _ => pg_nm 9 sc_differences_in.nd (by first | exact Or.inl rfl | exact Or.inr rfl)) (fun _ _ _ _ _ => pwts_nil) (fun _ _ _ _ _ => pw_ix (u1 hr) (pv_name 4) (pw_var 9)) (by decide))))))
theorem g_differences_in {P : Program} {w : World} {K : PySem.W.Frag} {mg : Str → Option Value} {base : Heap} {fa : Addr} {fd : FuncData} (B : FreeB mg) (C_steps_in : CalD P w K mg base 2 "steps_in" ["arrows", "goal"] (spF mg fs_steps_in)) (F : FunD K "differences_in" "differences_in" (defArgs st_differences_in) (defBody st_differences_in) (defScope st_differences_in) [] [] fa fd) : FnG P w K mg base 3 fa fd ["points", "arrows", "goal"] (spF mg fs_differences_in) :=
  fn_pure F sc_differences_in (fun ds Q ex h => by obtain ⟨_, _, _, rfl, _⟩ := h; rfl) (fun cdv A outer s H E hg hr => d_differences_in B C_steps_in hg hr) p_differences_in
theorem b_differences_in {K : PySem.W.Frag} {fa : Addr} {fd : FuncData} (F : FunD K "differences_in" "differences_in" (defArgs st_differences_in) (defBody st_differences_in) (defScope st_differences_in) [] [] fa fd) : Binds K fd ["points", "arrows", "goal"] [] := F.bindsN fun _ _ _ _ _ _ us hl => match us, hl with | [_, _, _], _ => rfl
theorem c_differences_in {P : Program} {w : World} {K : PySem.W.Frag} {mg : Str → Option Value} {base : Heap} {fa : Addr} {fd : FuncData} (B : FreeB mg) (C_steps_in : CalD P w K mg base 2 "steps_in" ["arrows", "goal"] (spF mg fs_steps_in)) (F : FunD K "differences_in" "differences_in" (defArgs st_differences_in) (defBody st_differences_in) (defScope st_differences_in) [] [] fa fd) (m : mg "differences_in" = some (.ref fa)) : CalD P w K mg base 3 "differences_in" ["points", "arrows", "goal"] (spF mg fs_differences_in) := ⟨fa, fd, g_differences_in B C_steps_in F, m, F.kp, b_differences_in F⟩
abbrev st_barred_in : Stmt := top 22
theorem sc_barred_in : FnScope ["points", "arrows", "left", "ends", "point", "tail", "head"] ["points", "arrows"] (defScope st_barred_in) := ⟨rfl, rfl, rfl, by decide +kernel, rfl, by decide +kernel, by decide +kernel⟩
theorem d_barred_in {P : Program} {w : World} {K : PySem.W.Frag} {mg : Str → Option Value} {base : Heap} {f : Addr} {cdv : Value} {A : Around} {outer : List Env} {s : Shared} {H : Hp} {E : XK} (B : FreeB mg) (hg : (A.deeper (envOfC "barred_in" (defScope st_barred_in) s.heap.objs.size f cdv)).guards = some []) (hr : Room 0 (A.deeper (envOfC "barred_in" (defScope st_barred_in) s.heap.objs.size f cdv))) :
    PWSs (bX P w K mg base ["points", "arrows", "left", "ends", "point", "tail", "head"] "barred_in" (defScope st_barred_in) f cdv A outer s H E) E (defBody st_barred_in) w_barred_in :=
  pws_cons (pws_set 2 (pw_listRg2 rfl B.list B.range (pw_int) (pw_bin o_add (pw_var 0) (pw_int))) sc_barred_in.nd) (pws_cons (pws_set 3 (pw_lc (own := [("point", 4)]) rfl sc_barred_in.nd (blkOk_by (by kernel_rfl)) (pi_lst (pv_name 2)) (fun _ _ _ _ _ => pg_nm 4 sc_barred_in.nd (by first | exact Or.inl rfl | exact Or.inr rfl)) (fun _ _ _ _ _ => pwts_one (pwt_cmp (o_eq (u64 hr)) (pw_lc (own := [("tail", 5), ("head", 6)]) rfl sc_barred_in.nd (blkOk_by (by kernel_rfl)) (pi_lst (pv_name 1)) (fun _ _ _ _ _ => pg_tp (n := 2) rfl (pwg_cons (pg_nm 5 sc_barred_in.nd (by first | exact Or.inl rfl | exact Or.inr rfl)) (pwg_cons (pg_nm 6 sc_barred_in.nd (by first | exact Or.inl rfl | exact Or.inr rfl)) (pwg_nil))) (len_name (len_name (len_nil)))) (fun _ _ _ _ _ => pwts_one (pwt_of (pww_and (pwt_cmp (o_eq (u64 hr)) (pw_var 5) (pw_var 4)) (pww_and1 (pwt_in (u65 hr) (pw_var 6) (pv_name 2)))))) (fun _ _ _ _ _ => pw_var 6) (by decide)) (pw_lst (pwa_nil)))) (fun _ _ _ _ _ => pw_var 4) (by decide)) sc_barred_in.nd) (pws_cons (pws_while own_fn (pwt_cmp (o_ne (u64 hr)) (pw_var 3) (pw_lst (pwa_nil))) (pws_cons (pws_set 2 (pw_lc (own := [("point", 4)]) rfl sc_barred_in.nd (blkOk_by (by kernel_rfl)) (pi_lst (pv_name 2)) (fun _ _ _ _ _ => pg_nm 4 sc_barred_in.nd (by first | exact Or.inl rfl | exact Or.inr rfl)) (fun _ _ _ _ _ => pwts_one (pwt_notin (u65 hr) (pw_var 4) (pv_name 3))) (fun _ _ _ _ _ => pw_var 4) (by decide)) sc_barred_in.nd) (pws_one (pws_set 3 (pw_lc (own := [("point", 4)]) rfl sc_barred_in.nd (blkOk_by (by kernel_rfl)) (pi_lst (pv_name 2)) (fun _ _ _ _ _ => pg_nm 4 sc_barred_in.nd (by first | exact Or.inl rfl | exact Or.inr rfl)) (fun _ _ _ _ _ => pwts_one (pwt_cmp (o_eq (u64 hr)) (pw_lc (own := [("tail", 5), ("head", 6)]) rfl sc_barred_in.nd (blkOk_by (by kernel_rfl)) (pi_lst (pv_name 1)) (fun _ _ _ _ _ => pg_tp (n := 2) rfl (pwg_cons (pg_nm 5 sc_barred_in.nd (by first | exact Or.inl rfl | exact Or.inr rfl)) (pwg_cons (pg_nm 6 sc_barred_in.nd (by first | exact Or.inl rfl | exact Or.inr rfl)) (pwg_nil))) (len_name (len_name (len_nil)))) (fun _ _ _ _ _ => pwts_one (pwt_of (pww_and (pwt_cmp (o_eq (u64 hr)) (pw_var 5) (pw_var 4)) (pww_and1 (pwt_in (u65 hr) (pw_var 6) (pv_name 2)))))) (fun _ _ _ _ _ => pw_var 6) (by decide)) (pw_lst (pwa_nil)))) (fun _ _ _ _ _ => pw_var 4) (by decide)) sc_barred_in.nd)))) (pws_one (pws_ret (pw_var 2)))))
theorem g_barred_in {P : Program} {w : World} {K : PySem.W.Frag} {mg : Str → Option Value} {base : Heap} {fa : Addr} {fd : FuncData} (B : FreeB mg)  (F : FunD K "barred_in" "barred_in" (defArgs st_barred_in) (defBody st_barred_in) (defScope st_barred_in) [] [] fa fd) : FnG P w K mg base 1 fa fd ["points", "arrows"] (spF mg fs_barred_in) :=
  fn_pure F sc_barred_in (fun ds Q ex h => by obtain ⟨_, _, rfl, _⟩ := h; rfl) (fun cdv A outer s H E hg hr => d_barred_in B  hg hr) p_barred_in
theorem b_barred_in {K : PySem.W.Frag} {fa : Addr} {fd : FuncData} (F : FunD K "barred_in" "barred_in" (defArgs st_barred_in) (defBody st_barred_in) (defScope st_barred_in) [] [] fa fd) : Binds K fd ["points", "arrows"] [] := F.bindsN fun _ _ _ _ _ _ us hl => match us, hl with | [_, _], _ => rfl
theorem c_barred_in {P : Program} {w : World} {K : PySem.W.Frag} {mg : Str → Option Value} {base : Heap} {fa : Addr} {fd : FuncData} (B : FreeB mg)  (F : FunD K "barred_in" "barred_in" (defArgs st_barred_in) (defBody st_barred_in) (defScope st_barred_in) [] [] fa fd) (m : mg "barred_in" = some (.ref fa)) : CalD P w K mg base 1 "barred_in" ["points", "arrows"] (spF mg fs_barred_in) := ⟨fa, fd, g_barred_in B  F, m, F.kp, b_barred_in F⟩
abbrev st_table_in : Stmt := top 31
theorem sc_table_in : FnScope ["points", "arrows", "goal", "told", "still", "less", "table", "number", "point"] ["points", "arrows", "goal"] (defScope st_table_in) := ⟨rfl, rfl, rfl, by decide +kernel, rfl, by decide +kernel, by decide +kernel⟩
theorem d_table_in {P : Program} {w : World} {K : PySem.W.Frag} {mg : Str → Option Value} {base : Heap} {f : Addr} {cdv : Value} {A : Around} {outer : List Env} {s : Shared} {H : Hp} {E : XK} (B : FreeB mg) (C_differences_in : CalD P w K mg base 3 "differences_in" ["points", "arrows", "goal"] (spF mg fs_differences_in)) (C_barred_in : CalD P w K mg base 1 "barred_in" ["points", "arrows"] (spF mg fs_barred_in)) (hg : (A.deeper (envOfC "table_in" (defScope st_table_in) s.heap.objs.size f cdv)).guards = some []) (hr : Room 3 (A.deeper (envOfC "table_in" (defScope st_table_in) s.heap.objs.size f cdv))) :
    PWSs (bX P w K mg base ["points", "arrows", "goal", "told", "still", "less", "table", "number", "point"] "table_in" (defScope st_table_in) f cdv A outer s H E) E (defBody st_table_in) w_table_in :=
  pws_cons (pws_par 3 4 (pm_dat (pw_cd C_differences_in hg hr pass_fn (pwa_cons (pw_var 0) (pwa_cons (pw_var 1) (pwa_cons (pw_var 2) (pwa_nil)))))) (pm_dat (pw_cd C_barred_in hg hr pass_fn (pwa_cons (pw_var 0) (pwa_cons (pw_var 1) (pwa_nil))))) (by decide) rfl sc_table_in.nd rfl) (pws_cons (pws_if (pwt_cmp o_isN (pw_var 3) (pw_non)) (pws_one (pws_ret (pw_non))) (pws_nil)) (pws_cons (pws_set 5 (pw_ifExp (pwt_cmp (o_ne (u64 hr)) (pw_var 4) (pw_lst (pwa_nil))) (pw_ix (u1 hr) (pv_name 3) (pw_bin o_sub (pw_ix (u1 hr) (pv_name 4) (pw_int)) (pw_int))) (pw_b1 (o_min rfl) B.min rfl (pv_name 3))) sc_table_in.nd) (pws_cons (pws_set 6 (pw_lc (own := [("number", 7)]) rfl sc_table_in.nd (blkOk_by (by kernel_rfl)) (pi_lst (pv_name 3)) (fun _ _ _ _ _ => pg_nm 7 sc_table_in.nd (by first | exact Or.inl rfl | exact Or.inr rfl)) (fun _ _ _ _ _ => pwts_nil) (fun _ _ _ _ _ => pw_bin o_sub (pw_var 7) (pw_var 5)) (by decide)) sc_table_in.nd) (pws_cons (pws_if (pwt_of (pww_or (pwt_cmp o_lt (pw_b1 (o_min rfl) B.min rfl (pv_name 6)) (pw_int)) (pww_or1 (pwt_val (pw_b1 (o_any rfl) B.any rfl (pv_of (pw_lc (own := [("point", 8)]) rfl sc_table_in.nd (blkOk_by (by kernel_rfl)) (pi_lst (pv_name 4)) (fun _ _ _ _ _ => pg_nm 8 sc_table_in.nd (by first | exact Or.inl rfl | exact Or.inr rfl)) (fun _ _ _ _ _ => pwts_nil) (fun _ _ _ _ _ => pw_cmp (o_ne (u64 hr)) (pw_ix (u1 hr) (pv_name 6) (pw_bin o_sub (pw_var 8) (pw_int))) (pw_int)) (by decide)))))))) (pws_one (pws_ret (pw_non))) (pws_nil)) (pws_one (pws_ret (pw_var 6)))))))
theorem g_table_in {P : Program} {w : World} {K : PySem.W.Frag} {mg : Str → Option Value} {base : Heap} {fa : Addr} {fd : FuncData} (B : FreeB mg) (C_differences_in : CalD P w K mg base 3 "differences_in" ["points", "arrows", "goal"] (spF mg fs_differences_in)) (C_barred_in : CalD P w K mg base 1 "barred_in" ["points", "arrows"] (spF mg fs_barred_in)) (F : FunD K "table_in" "table_in" (defArgs st_table_in) (defBody st_table_in) (defScope st_table_in) [] [] fa fd) : FnG P w K mg base 4 fa fd ["points", "arrows", "goal"] (spF mg fs_table_in) :=
  fn_pure F sc_table_in (fun ds Q ex h => by obtain ⟨_, _, _, rfl, _⟩ := h; rfl) (fun cdv A outer s H E hg hr => d_table_in B C_differences_in C_barred_in hg hr) p_table_in
theorem b_table_in {K : PySem.W.Frag} {fa : Addr} {fd : FuncData} (F : FunD K "table_in" "table_in" (defArgs st_table_in) (defBody st_table_in) (defScope st_table_in) [] [] fa fd) : Binds K fd ["points", "arrows", "goal"] [] := F.bindsN fun _ _ _ _ _ _ us hl => match us, hl with | [_, _, _], _ => rfl
theorem c_table_in {P : Program} {w : World} {K : PySem.W.Frag} {mg : Str → Option Value} {base : Heap} {fa : Addr} {fd : FuncData} (B : FreeB mg) (C_differences_in : CalD P w K mg base 3 "differences_in" ["points", "arrows", "goal"] (spF mg fs_differences_in)) (C_barred_in : CalD P w K mg base 1 "barred_in" ["points", "arrows"] (spF mg fs_barred_in)) (F : FunD K "table_in" "table_in" (defArgs st_table_in) (defBody st_table_in) (defScope st_table_in) [] [] fa fd) (m : mg "table_in" = some (.ref fa)) : CalD P w K mg base 4 "table_in" ["points", "arrows", "goal"] (spF mg fs_table_in) := ⟨fa, fd, g_table_in B C_differences_in C_barred_in F, m, F.kp, b_table_in F⟩
abbrev st_least_table : Stmt := top 34
theorem sc_least_table : FnScope ["points", "arrows", "goal"] ["points", "arrows", "goal"] (defScope st_least_table) := ⟨rfl, rfl, rfl, by decide +kernel, rfl, by decide +kernel, by decide +kernel⟩
theorem d_least_table {P : Program} {w : World} {K : PySem.W.Frag} {mg : Str → Option Value} {base : Heap} {f : Addr} {cdv : Value} {A : Around} {outer : List Env} {s : Shared} {H : Hp} {E : XK} (B : FreeB mg) (C_check_two : CalD P w K mg base 6 "check_two" ["points", "arrows", "goal"] (spF mg fs_check_two)) (C_table_in : CalD P w K mg base 4 "table_in" ["points", "arrows", "goal"] (spF mg fs_table_in)) (hg : (A.deeper (envOfC "least_table" (defScope st_least_table) s.heap.objs.size f cdv)).guards = some []) (hr : Room 6 (A.deeper (envOfC "least_table" (defScope st_least_table) s.heap.objs.size f cdv))) :
    PWSs (bX P w K mg base ["points", "arrows", "goal"] "least_table" (defScope st_least_table) f cdv A outer s H E) E (defBody st_least_table) w_least_table :=
  pws_cons (pws_expr (pw_cd C_check_two hg hr pass_fn (pwa_cons (pw_var 0) (pwa_cons (pw_var 1) (pwa_cons (pw_var 2) (pwa_nil)))))) (pws_one (pws_ret (pw_cd C_table_in hg hr pass_fn (pwa_cons (pw_var 0) (pwa_cons (pw_var 1) (pwa_cons (pw_var 2) (pwa_nil)))))))
theorem g_least_table {P : Program} {w : World} {K : PySem.W.Frag} {mg : Str → Option Value} {base : Heap} {fa : Addr} {fd : FuncData} (B : FreeB mg) (C_check_two : CalD P w K mg base 6 "check_two" ["points", "arrows", "goal"] (spF mg fs_check_two)) (C_table_in : CalD P w K mg base 4 "table_in" ["points", "arrows", "goal"] (spF mg fs_table_in)) (F : FunD K "least_table" "least_table" (defArgs st_least_table) (defBody st_least_table) (defScope st_least_table) [] [] fa fd) : FnG P w K mg base 7 fa fd ["points", "arrows", "goal"] (spF mg fs_least_table) :=
  fn_pure F sc_least_table (fun ds Q ex h => by obtain ⟨_, _, _, rfl, _⟩ := h; rfl) (fun cdv A outer s H E hg hr => d_least_table B C_check_two C_table_in hg hr) p_least_table
theorem b_least_table {K : PySem.W.Frag} {fa : Addr} {fd : FuncData} (F : FunD K "least_table" "least_table" (defArgs st_least_table) (defBody st_least_table) (defScope st_least_table) [] [] fa fd) : Binds K fd ["points", "arrows", "goal"] [] := F.bindsN fun _ _ _ _ _ _ us hl => match us, hl with | [_, _, _], _ => rfl
theorem c_least_table {P : Program} {w : World} {K : PySem.W.Frag} {mg : Str → Option Value} {base : Heap} {fa : Addr} {fd : FuncData} (B : FreeB mg) (C_check_two : CalD P w K mg base 6 "check_two" ["points", "arrows", "goal"] (spF mg fs_check_two)) (C_table_in : CalD P w K mg base 4 "table_in" ["points", "arrows", "goal"] (spF mg fs_table_in)) (F : FunD K "least_table" "least_table" (defArgs st_least_table) (defBody st_least_table) (defScope st_least_table) [] [] fa fd) (m : mg "least_table" = some (.ref fa)) : CalD P w K mg base 7 "least_table" ["points", "arrows", "goal"] (spF mg fs_least_table) := ⟨fa, fd, g_least_table B C_check_two C_table_in F, m, F.kp, b_least_table F⟩
abbrev st_run_in : Stmt := top 32
theorem sc_run_in : FnScope ["points", "arrows", "table", "left", "told", "point", "number"] ["points", "arrows", "table"] (defScope st_run_in) := ⟨rfl, rfl, rfl, by decide +kernel, rfl, by decide +kernel, by decide +kernel⟩
theorem d_run_in {P : Program} {w : World} {K : PySem.W.Frag} {mg : Str → Option Value} {base : Heap} {f : Addr} {cdv : Value} {A : Around} {outer : List Env} {s : Shared} {H : Hp} {E : XK} (B : FreeB mg) (C_may_in : CalD P w K mg base 1 "may_in" ["points", "arrows"] (spF mg fs_may_in)) (C_turned_in : CalD P w K mg base 1 "turned_in" ["arrows", "point"] (spF mg fs_turned_in)) (hg : (A.deeper (envOfC "run_in" (defScope st_run_in) s.heap.objs.size f cdv)).guards = some []) (hr : Room 1 (A.deeper (envOfC "run_in" (defScope st_run_in) s.heap.objs.size f cdv))) :
    PWSs (bX P w K mg base ["points", "arrows", "table", "left", "told", "point", "number"] "run_in" (defScope st_run_in) f cdv A outer s H E) E (defBody st_run_in) w_run_in :=
  pws_cons (pws_asg2 3 4 (pm_own (pn_list B.list (pv_name 2) rfl)) (pm_own (pn_lst (pwa_nil))) rfl sc_run_in.nd) (pws_cons (pws_while own_fn (pwt_val (pw_b1 (o_any rfl) B.any rfl (pv_of (pw_lc (own := [("number", 6)]) rfl sc_run_in.nd (blkOk_by (by kernel_rfl)) (pi_lst (pv_name 3)) (fun _ _ _ _ _ => pg_nm 6 sc_run_in.nd (by first | exact Or.inl rfl | exact Or.inr rfl)) (fun _ _ _ _ _ => pwts_nil) (fun _ _ _ _ _ => pw_cmp o_gt (pw_var 6) (pw_int)) (by decide))))) (pws_cons (pws_set 5 (pw_ix (u1 hr) (pv_of (pw_lc (own := [("point", 5)]) rfl sc_run_in.nd (blkOk_by (by kernel_rfl)) (pi_lst (pv_of (pw_cd C_may_in hg hr pass_fn (pwa_cons (pw_var 0) (pwa_cons (pw_var 1) (pwa_nil)))))) (fun _ _ _ _ _ => pg_nm 5 sc_run_in.nd (by first | exact Or.inl rfl | exact Or.inr rfl)) (fun _ _ _ _ _ => pwts_one (pwt_cmp o_gt (pw_ix (u1 hr) (pv_name 3) (pw_bin o_sub (pw_var 5) (pw_int))) (pw_int))) (fun _ _ _ _ _ => pw_var 5) (by decide))) (pw_int)) sc_run_in.nd) (pws_cons (pws_set 1 (pw_cd C_turned_in hg hr pass_fn (pwa_cons (pw_var 1) (pwa_cons (pw_var 5) (pwa_nil)))) sc_run_in.nd) (pws_cons (pws_aug 3 ip_sub (pw_bin o_sub (pw_var 5) (pw_int)) (pw_int)) (pws_one (pws_expr (pw_app 4 (pw_var 5)))))))) (pws_one (pws_ret (pw_var 4))))
theorem g_run_in {P : Program} {w : World} {K : PySem.W.Frag} {mg : Str → Option Value} {base : Heap} {fa : Addr} {fd : FuncData} (B : FreeB mg) (C_may_in : CalD P w K mg base 1 "may_in" ["points", "arrows"] (spF mg fs_may_in)) (C_turned_in : CalD P w K mg base 1 "turned_in" ["arrows", "point"] (spF mg fs_turned_in)) (F : FunD K "run_in" "run_in" (defArgs st_run_in) (defBody st_run_in) (defScope st_run_in) [] [] fa fd) : FnG P w K mg base 2 fa fd ["points", "arrows", "table"] (spF mg fs_run_in) :=
  fn_pure F sc_run_in (fun ds Q ex h => by obtain ⟨_, _, _, rfl, _⟩ := h; rfl) (fun cdv A outer s H E hg hr => d_run_in B C_may_in C_turned_in hg hr) p_run_in
theorem b_run_in {K : PySem.W.Frag} {fa : Addr} {fd : FuncData} (F : FunD K "run_in" "run_in" (defArgs st_run_in) (defBody st_run_in) (defScope st_run_in) [] [] fa fd) : Binds K fd ["points", "arrows", "table"] [] := F.bindsN fun _ _ _ _ _ _ us hl => match us, hl with | [_, _, _], _ => rfl
theorem c_run_in {P : Program} {w : World} {K : PySem.W.Frag} {mg : Str → Option Value} {base : Heap} {fa : Addr} {fd : FuncData} (B : FreeB mg) (C_may_in : CalD P w K mg base 1 "may_in" ["points", "arrows"] (spF mg fs_may_in)) (C_turned_in : CalD P w K mg base 1 "turned_in" ["arrows", "point"] (spF mg fs_turned_in)) (F : FunD K "run_in" "run_in" (defArgs st_run_in) (defBody st_run_in) (defScope st_run_in) [] [] fa fd) (m : mg "run_in" = some (.ref fa)) : CalD P w K mg base 2 "run_in" ["points", "arrows", "table"] (spF mg fs_run_in) := ⟨fa, fd, g_run_in B C_may_in C_turned_in F, m, F.kp, b_run_in F⟩
abbrev st_run_to : Stmt := top 35
theorem sc_run_to : FnScope ["points", "arrows", "goal", "table"] ["points", "arrows", "goal"] (defScope st_run_to) := ⟨rfl, rfl, rfl, by decide +kernel, rfl, by decide +kernel, by decide +kernel⟩
theorem d_run_to {P : Program} {w : World} {K : PySem.W.Frag} {mg : Str → Option Value} {base : Heap} {f : Addr} {cdv : Value} {A : Around} {outer : List Env} {s : Shared} {H : Hp} {E : XK} (B : FreeB mg) (C_check_two : CalD P w K mg base 6 "check_two" ["points", "arrows", "goal"] (spF mg fs_check_two)) (C_table_in : CalD P w K mg base 4 "table_in" ["points", "arrows", "goal"] (spF mg fs_table_in)) (C_run_in : CalD P w K mg base 2 "run_in" ["points", "arrows", "table"] (spF mg fs_run_in)) (hg : (A.deeper (envOfC "run_to" (defScope st_run_to) s.heap.objs.size f cdv)).guards = some []) (hr : Room 6 (A.deeper (envOfC "run_to" (defScope st_run_to) s.heap.objs.size f cdv))) :
    PWSs (bX P w K mg base ["points", "arrows", "goal", "table"] "run_to" (defScope st_run_to) f cdv A outer s H E) E (defBody st_run_to) w_run_to :=
  pws_cons (pws_expr (pw_cd C_check_two hg hr pass_fn (pwa_cons (pw_var 0) (pwa_cons (pw_var 1) (pwa_cons (pw_var 2) (pwa_nil)))))) (pws_cons (pws_set 3 (pw_cd C_table_in hg hr pass_fn (pwa_cons (pw_var 0) (pwa_cons (pw_var 1) (pwa_cons (pw_var 2) (pwa_nil))))) sc_run_to.nd) (pws_one (pws_ret (pw_ifExp (pwt_cmp o_notN (pw_var 3) (pw_non)) (pw_cd C_run_in hg hr pass_fn (pwa_cons (pw_var 0) (pwa_cons (pw_var 1) (pwa_cons (pw_var 3) (pwa_nil))))) (pw_non)))))
theorem g_run_to {P : Program} {w : World} {K : PySem.W.Frag} {mg : Str → Option Value} {base : Heap} {fa : Addr} {fd : FuncData} (B : FreeB mg) (C_check_two : CalD P w K mg base 6 "check_two" ["points", "arrows", "goal"] (spF mg fs_check_two)) (C_table_in : CalD P w K mg base 4 "table_in" ["points", "arrows", "goal"] (spF mg fs_table_in)) (C_run_in : CalD P w K mg base 2 "run_in" ["points", "arrows", "table"] (spF mg fs_run_in)) (F : FunD K "run_to" "run_to" (defArgs st_run_to) (defBody st_run_to) (defScope st_run_to) [] [] fa fd) : FnG P w K mg base 7 fa fd ["points", "arrows", "goal"] (spF mg fs_run_to) :=
  fn_pure F sc_run_to (fun ds Q ex h => by obtain ⟨_, _, _, rfl, _⟩ := h; rfl) (fun cdv A outer s H E hg hr => d_run_to B C_check_two C_table_in C_run_in hg hr) p_run_to
theorem b_run_to {K : PySem.W.Frag} {fa : Addr} {fd : FuncData} (F : FunD K "run_to" "run_to" (defArgs st_run_to) (defBody st_run_to) (defScope st_run_to) [] [] fa fd) : Binds K fd ["points", "arrows", "goal"] [] := F.bindsN fun _ _ _ _ _ _ us hl => match us, hl with | [_, _, _], _ => rfl
theorem c_run_to {P : Program} {w : World} {K : PySem.W.Frag} {mg : Str → Option Value} {base : Heap} {fa : Addr} {fd : FuncData} (B : FreeB mg) (C_check_two : CalD P w K mg base 6 "check_two" ["points", "arrows", "goal"] (spF mg fs_check_two)) (C_table_in : CalD P w K mg base 4 "table_in" ["points", "arrows", "goal"] (spF mg fs_table_in)) (C_run_in : CalD P w K mg base 2 "run_in" ["points", "arrows", "table"] (spF mg fs_run_in)) (F : FunD K "run_to" "run_to" (defArgs st_run_to) (defBody st_run_to) (defScope st_run_to) [] [] fa fd) (m : mg "run_to" = some (.ref fa)) : CalD P w K mg base 7 "run_to" ["points", "arrows", "goal"] (spF mg fs_run_to) := ⟨fa, fd, g_run_to B C_check_two C_table_in C_run_in F, m, F.kp, b_run_to F⟩
abbrev st_may_turn : Stmt := top 23
theorem sc_may_turn : FnScope ["points", "arrows"] ["points", "arrows"] (defScope st_may_turn) := ⟨rfl, rfl, rfl, by decide +kernel, rfl, by decide +kernel, by decide +kernel⟩
theorem d_may_turn {P : Program} {w : World} {K : PySem.W.Frag} {mg : Str → Option Value} {base : Heap} {f : Addr} {cdv : Value} {A : Around} {outer : List Env} {s : Shared} {H : Hp} {E : XK} (B : FreeB mg) (C_check_both : CalD P w K mg base 5 "check_both" ["points", "arrows"] (spF mg fs_check_both)) (C_may_in : CalD P w K mg base 1 "may_in" ["points", "arrows"] (spF mg fs_may_in)) (hg : (A.deeper (envOfC "may_turn" (defScope st_may_turn) s.heap.objs.size f cdv)).guards = some []) (hr : Room 5 (A.deeper (envOfC "may_turn" (defScope st_may_turn) s.heap.objs.size f cdv))) :
    PWSs (bX P w K mg base ["points", "arrows"] "may_turn" (defScope st_may_turn) f cdv A outer s H E) E (defBody st_may_turn) w_may_turn :=
  pws_cons (pws_expr (pw_cd C_check_both hg hr pass_fn (pwa_cons (pw_var 0) (pwa_cons (pw_var 1) (pwa_nil))))) (pws_one (pws_ret (pw_cd C_may_in hg hr pass_fn (pwa_cons (pw_var 0) (pwa_cons (pw_var 1) (pwa_nil))))))
theorem g_may_turn {P : Program} {w : World} {K : PySem.W.Frag} {mg : Str → Option Value} {base : Heap} {fa : Addr} {fd : FuncData} (B : FreeB mg) (C_check_both : CalD P w K mg base 5 "check_both" ["points", "arrows"] (spF mg fs_check_both)) (C_may_in : CalD P w K mg base 1 "may_in" ["points", "arrows"] (spF mg fs_may_in)) (F : FunD K "may_turn" "may_turn" (defArgs st_may_turn) (defBody st_may_turn) (defScope st_may_turn) [] [] fa fd) : FnG P w K mg base 6 fa fd ["points", "arrows"] (spF mg fs_may_turn) :=
  fn_pure F sc_may_turn (fun ds Q ex h => by obtain ⟨_, _, rfl, _⟩ := h; rfl) (fun cdv A outer s H E hg hr => d_may_turn B C_check_both C_may_in hg hr) p_may_turn
theorem b_may_turn {K : PySem.W.Frag} {fa : Addr} {fd : FuncData} (F : FunD K "may_turn" "may_turn" (defArgs st_may_turn) (defBody st_may_turn) (defScope st_may_turn) [] [] fa fd) : Binds K fd ["points", "arrows"] [] := F.bindsN fun _ _ _ _ _ _ us hl => match us, hl with | [_, _], _ => rfl
theorem c_may_turn {P : Program} {w : World} {K : PySem.W.Frag} {mg : Str → Option Value} {base : Heap} {fa : Addr} {fd : FuncData} (B : FreeB mg) (C_check_both : CalD P w K mg base 5 "check_both" ["points", "arrows"] (spF mg fs_check_both)) (C_may_in : CalD P w K mg base 1 "may_in" ["points", "arrows"] (spF mg fs_may_in)) (F : FunD K "may_turn" "may_turn" (defArgs st_may_turn) (defBody st_may_turn) (defScope st_may_turn) [] [] fa fd) (m : mg "may_turn" = some (.ref fa)) : CalD P w K mg base 6 "may_turn" ["points", "arrows"] (spF mg fs_may_turn) := ⟨fa, fd, g_may_turn B C_check_both C_may_in F, m, F.kp, b_may_turn F⟩
abbrev st__law_right : Stmt := top 49
theorem sc__law_right : FnScope ["_law_draws_here", "_law_size", "_law_sides_here", "_law_kept", "_law_home", "_law_steps", "_law_later", "_law_counts", "_law_most", "_law_more", "_law_last", "_law_once", "_law_free", "_law_one", "_law_mate", "_law_count", "_law_spot"] ["_law_draws_here", "_law_size", "_law_sides_here"] (defScope st__law_right) := ⟨rfl, rfl, rfl, by decide +kernel, rfl, by decide +kernel, by decide +kernel⟩
theorem d__law_right {P : Program} {w : World} {K : PySem.W.Frag} {mg : Str → Option Value} {base : Heap} {f : Addr} {cdv : Value} {A : Around} {outer : List Env} {s : Shared} {H : Hp} {E : XK} (B : FreeB mg) (C__law_in_order : CalD P w K mg base 1 "_law_in_order" ["_law_sides_here"] (spF mg fs__law_in_order)) (C__law_played : CalD P w K mg base 2 "_law_played" ["_law_draws_here", "_law_size", "_law_sides_here", "_law_most"] (spM fs__law_played)) (C__law_next : CalD P w K mg base 1 "_law_next" ["_law_draws_here"] (spM fs__law_next)) (C__law_filled : CalD P w K mg base 2 "_law_filled" ["_law_draws_here", "_law_size", "_law_sides_here", "_law_counts", "_law_most"] (spM fs__law_filled)) (C_after_turns : CalD P w K mg base 6 "after_turns" ["points", "arrows", "turns"] (spF mg fs_after_turns)) (C_least_table : CalD P w K mg base 7 "least_table" ["points", "arrows", "goal"] (spF mg fs_least_table)) (C_run_to : CalD P w K mg base 7 "run_to" ["points", "arrows", "goal"] (spF mg fs_run_to)) (C_may_turn : CalD P w K mg base 6 "may_turn" ["points", "arrows"] (spF mg fs_may_turn)) (C__law_shuffled : CalD P w K mg base 2 "_law_shuffled" ["_law_draws_here", "_law_things"] (spM fs__law_shuffled)) (hg : (A.deeper (envOfC "_law_right" (defScope st__law_right) s.heap.objs.size f cdv)).guards = some []) (hr : Room 7 (A.deeper (envOfC "_law_right" (defScope st__law_right) s.heap.objs.size f cdv))) :
    PWSs (bX P w K mg base ["_law_draws_here", "_law_size", "_law_sides_here", "_law_kept", "_law_home", "_law_steps", "_law_later", "_law_counts", "_law_most", "_law_more", "_law_last", "_law_once", "_law_free", "_law_one", "_law_mate", "_law_count", "_law_spot"] "_law_right" (defScope st__law_right) f cdv A outer s H E) E (defBody st__law_right) w__law_right :=
  pws_cons (pws_set 3 (pw_b1 (o_repr hg (u64 hr)) B.repr rfl (pv_name 2)) sc__law_right.nd) (pws_cons (pws_set 4 (pw_cd C__law_in_order hg hr pass_fn (pwa_cons (pw_var 2) (pwa_nil))) sc__law_right.nd) (pws_cons (pws_asg (pw_cm 0 C__law_played hg hr pass_fn (pwa_cons (pw_var 1) (pwa_cons (pw_var 2) (pwa_cons (pw_int) (pwa_nil))))) (pg_tp (n := 2) rfl (pwg_cons (pg_nm 5 sc__law_right.nd (by first | exact Or.inl rfl | exact Or.inr rfl)) (pwg_cons (pg_nm 6 sc__law_right.nd (by first | exact Or.inl rfl | exact Or.inr rfl)) (pwg_nil))) (len_name (len_name (len_nil))))) (pws_cons (pws_set 7 (pw_lc (own := [("_law_mate", 14)]) rfl sc__law_right.nd (blkOk_by (by kernel_rfl)) (pi_rng2 B.range (pw_int) (pw_bin o_add (pw_var 1) (pw_int))) (fun _ _ _ _ _ => pg_nm 14 sc__law_right.nd (by first | exact Or.inl rfl | exact Or.inr rfl)) (fun _ _ _ _ _ => pwts_nil) (fun _ _ _ _ _ => pw_b1 o_len B.len rfl (pv_of (pw_lc (own := [("_law_spot", 16)]) rfl sc__law_right.nd (blkOk_by (by kernel_rfl)) (pi_lst (pv_name 5)) (fun _ _ _ _ _ => pg_nm 16 sc__law_right.nd (by first | exact Or.inl rfl | exact Or.inr rfl)) (fun _ _ _ _ _ => pwts_one (pwt_cmp (o_eq (u64 hr)) (pw_var 16) (pw_var 14))) (fun _ _ _ _ _ => pw_var 16) (by decide)))) (by decide)) sc__law_right.nd) (pws_cons (pws_set 8 (pw_bin o_add (pw_b1 (o_max rfl) B.max rfl (pv_name 7)) (pw_bin o_mod (pw_t1 o_int B.int rfl (pv_of (pw_cm 0 C__law_next hg hr pass_fn (pwa_nil)))) (pw_int))) sc__law_right.nd) (pws_cons (pws_asg (pw_cm 0 C__law_filled hg hr pass_fn (pwa_cons (pw_var 1) (pwa_cons (pw_var 6) (pwa_cons (pw_var 7) (pwa_cons (pw_var 8) (pwa_nil)))))) (pg_tp (n := 2) rfl (pwg_cons (pg_nm 9 sc__law_right.nd (by first | exact Or.inl rfl | exact Or.inr rfl)) (pwg_cons (pg_nm 10 sc__law_right.nd (by first | exact Or.inl rfl | exact Or.inr rfl)) (pwg_nil))) (len_name (len_name (len_nil))))) (pws_cons (pws_if (pwt_of (pww_or (pwt_cmp (o_ne (u64 hr)) (pw_b1 o_len B.len rfl (pv_of (pw_bin o_add (pw_var 5) (pw_var 9)))) (pw_bin o_mul (pw_var 1) (pw_var 8))) (pww_or1 (pwt_cmp (o_ne (u64 hr)) (pw_cd C_after_turns hg hr pass_fn (pwa_cons (pw_var 1) (pwa_cons (pw_var 2) (pwa_cons (pw_bin o_add (pw_var 5) (pw_var 9)) (pwa_nil))))) (pw_var 4))))) (pws_one (pws_ret (pw_bl))) (pws_nil)) (pws_cons (pws_asg (pw_cm 0 C__law_filled hg hr pass_fn (pwa_cons (pw_var 1) (pwa_cons (pw_var 2) (pwa_cons (pw_bin o_mul (pw_lst (pwa_cons (pw_int) (pwa_nil))) (pw_var 1)) (pwa_cons (pw_int) (pwa_nil)))))) (pg_tp (n := 2) rfl (pwg_cons (pg_nm 11 sc__law_right.nd (by first | exact Or.inl rfl | exact Or.inr rfl)) (pwg_cons (pg_nm 10 sc__law_right.nd (by first | exact Or.inl rfl | exact Or.inr rfl)) (pwg_nil))) (len_name (len_name (len_nil))))) (pws_cons (pws_if (pwt_of (pww_or (pwt_cmp (o_ne (u64 hr)) (pw_b1 (o_sorted (u64 hr)) B.sorted rfl (pv_name 11)) (pw_listRg2 rfl B.list B.range (pw_int) (pw_bin o_add (pw_var 1) (pw_int)))) (pww_or1 (pwt_cmp (o_ne (u64 hr)) (pw_cd C_after_turns hg hr pass_fn (pwa_cons (pw_var 1) (pwa_cons (pw_var 2) (pwa_cons (pw_bin o_mul (pw_var 11) (pw_int)) (pwa_nil))))) (pw_var 4))))) (pws_one (pws_ret (pw_bl))) (pws_nil)) (pws_cons (pws_if (pwt_cmp (o_ne (u64 hr)) (pw_cd C_least_table hg hr pass_fn (pwa_cons (pw_var 1) (pwa_cons (pw_var 2) (pwa_cons (pw_var 6) (pwa_nil))))) (pw_lc (own := [("_law_count", 15)]) rfl sc__law_right.nd (blkOk_by (by kernel_rfl)) (pi_lst (pv_name 7)) (fun _ _ _ _ _ => pg_nm 15 sc__law_right.nd (by first | exact Or.inl rfl | exact Or.inr rfl)) (fun _ _ _ _ _ => pwts_nil) (fun _ _ _ _ _ => pw_bin o_sub (pw_var 15) (pw_b1 (o_min rfl) B.min rfl (pv_name 7))) (by decide))) (pws_one (pws_ret (pw_bl))) (pws_nil)) (pws_cons (pws_if (pwt_cmp (o_ne (u64 hr)) (pw_cd C_after_turns hg hr pass_fn (pwa_cons (pw_var 1) (pwa_cons (pw_var 6) (pwa_cons (pw_cd C_run_to hg hr pass_fn (pwa_cons (pw_var 1) (pwa_cons (pw_var 6) (pwa_cons (pw_var 2) (pwa_nil))))) (pwa_nil))))) (pw_var 4)) (pws_one (pws_ret (pw_bl))) (pws_nil)) (pws_cons (pws_set 12 (pw_cm 0 C__law_shuffled hg hr pass_fn (pwa_cons (pw_cd C_may_turn hg hr pass_fn (pwa_cons (pw_var 1) (pwa_cons (pw_var 6) (pwa_nil)))) (pwa_nil))) sc__law_right.nd) (pws_cons (pws_set 13 (pw_cd C_after_turns hg hr pass_fn (pwa_cons (pw_var 1) (pwa_cons (pw_var 6) (pwa_cons (pw_var 12) (pwa_nil))))) sc__law_right.nd) (pws_one (pws_ret (pw_and (pw_cmp (o_ne (u64 hr)) (pw_var 12) (pw_lst (pwa_nil))) (pw_and (pw_cmp (o_eq (u64 hr)) (pw_var 13) (pw_cd C_after_turns hg hr pass_fn (pwa_cons (pw_var 1) (pwa_cons (pw_var 6) (pwa_cons (pw_slK (pv_name 12) (pw_neg (pw_int))) (pwa_nil)))))) (pw_one (pw_cmp (o_eq (u64 hr)) (pw_b1 (o_repr hg (u64 hr)) B.repr rfl (pv_name 2)) (pw_var 3)))))))))))))))))))
theorem g__law_right {P : Program} {w : World} {K : PySem.W.Frag} {mg : Str → Option Value} {base : Heap} {fa : Addr} {fd : FuncData} (B : FreeB mg) (C__law_in_order : CalD P w K mg base 1 "_law_in_order" ["_law_sides_here"] (spF mg fs__law_in_order)) (C__law_played : CalD P w K mg base 2 "_law_played" ["_law_draws_here", "_law_size", "_law_sides_here", "_law_most"] (spM fs__law_played)) (C__law_next : CalD P w K mg base 1 "_law_next" ["_law_draws_here"] (spM fs__law_next)) (C__law_filled : CalD P w K mg base 2 "_law_filled" ["_law_draws_here", "_law_size", "_law_sides_here", "_law_counts", "_law_most"] (spM fs__law_filled)) (C_after_turns : CalD P w K mg base 6 "after_turns" ["points", "arrows", "turns"] (spF mg fs_after_turns)) (C_least_table : CalD P w K mg base 7 "least_table" ["points", "arrows", "goal"] (spF mg fs_least_table)) (C_run_to : CalD P w K mg base 7 "run_to" ["points", "arrows", "goal"] (spF mg fs_run_to)) (C_may_turn : CalD P w K mg base 6 "may_turn" ["points", "arrows"] (spF mg fs_may_turn)) (C__law_shuffled : CalD P w K mg base 2 "_law_shuffled" ["_law_draws_here", "_law_things"] (spM fs__law_shuffled)) (F : FunD K "_law_right" "_law_right" (defArgs st__law_right) (defBody st__law_right) (defScope st__law_right) [] [] fa fd) : FnG P w K mg base 8 fa fd ["_law_draws_here", "_law_size", "_law_sides_here"] (spM fs__law_right) :=
  fn_pureM F sc__law_right (fun os ds Q h => by obtain ⟨_, _, _, rfl, _⟩ := h; rfl) (fun cdv A outer s H E hg hr => d__law_right B C__law_in_order C__law_played C__law_next C__law_filled C_after_turns C_least_table C_run_to C_may_turn C__law_shuffled hg hr) p__law_right
theorem b__law_right {K : PySem.W.Frag} {fa : Addr} {fd : FuncData} (F : FunD K "_law_right" "_law_right" (defArgs st__law_right) (defBody st__law_right) (defScope st__law_right) [] [] fa fd) : Binds K fd ["_law_draws_here", "_law_size", "_law_sides_here"] [] := F.bindsN fun _ _ _ _ _ _ us hl => match us, hl with | [_, _, _], _ => rfl
theorem c__law_right {P : Program} {w : World} {K : PySem.W.Frag} {mg : Str → Option Value} {base : Heap} {fa : Addr} {fd : FuncData} (B : FreeB mg) (C__law_in_order : CalD P w K mg base 1 "_law_in_order" ["_law_sides_here"] (spF mg fs__law_in_order)) (C__law_played : CalD P w K mg base 2 "_law_played" ["_law_draws_here", "_law_size", "_law_sides_here", "_law_most"] (spM fs__law_played)) (C__law_next : CalD P w K mg base 1 "_law_next" ["_law_draws_here"] (spM fs__law_next)) (C__law_filled : CalD P w K mg base 2 "_law_filled" ["_law_draws_here", "_law_size", "_law_sides_here", "_law_counts", "_law_most"] (spM fs__law_filled)) (C_after_turns : CalD P w K mg base 6 "after_turns" ["points", "arrows", "turns"] (spF mg fs_after_turns)) (C_least_table : CalD P w K mg base 7 "least_table" ["points", "arrows", "goal"] (spF mg fs_least_table)) (C_run_to : CalD P w K mg base 7 "run_to" ["points", "arrows", "goal"] (spF mg fs_run_to)) (C_may_turn : CalD P w K mg base 6 "may_turn" ["points", "arrows"] (spF mg fs_may_turn)) (C__law_shuffled : CalD P w K mg base 2 "_law_shuffled" ["_law_draws_here", "_law_things"] (spM fs__law_shuffled)) (F : FunD K "_law_right" "_law_right" (defArgs st__law_right) (defBody st__law_right) (defScope st__law_right) [] [] fa fd) (m : mg "_law_right" = some (.ref fa)) : CalD P w K mg base 8 "_law_right" ["_law_draws_here", "_law_size", "_law_sides_here"] (spM fs__law_right) := ⟨fa, fd, g__law_right B C__law_in_order C__law_played C__law_next C__law_filled C_after_turns C_least_table C_run_to C_may_turn C__law_shuffled F, m, F.kp, b__law_right F⟩
abbrev st__law_again_right : Stmt := top 50
theorem sc__law_again_right : FnScope ["_law_draws_here", "_law_size", "_law_sides_here", "_law_spot", "_law_now", "_law_step", "_law_free"] ["_law_draws_here", "_law_size", "_law_sides_here"] (defScope st__law_again_right) := ⟨rfl, rfl, rfl, by decide +kernel, rfl, by decide +kernel, by decide +kernel⟩
theorem d__law_again_right {P : Program} {w : World} {K : PySem.W.Frag} {mg : Str → Option Value} {base : Heap} {f : Addr} {cdv : Value} {A : Around} {outer : List Env} {s : Shared} {H : Hp} {E : XK} (B : FreeB mg) (C__law_next : CalD P w K mg base 1 "_law_next" ["_law_draws_here"] (spM fs__law_next)) (C__law_may : CalD P w K mg base 1 "_law_may" ["_law_size", "_law_sides_here"] (spF mg fs__law_may)) (C_after_turns : CalD P w K mg base 6 "after_turns" ["points", "arrows", "turns"] (spF mg fs_after_turns)) (C__law_turned : CalD P w K mg base 1 "_law_turned" ["_law_sides_here", "_law_spot"] (spF mg fs__law_turned)) (C__law_in_order : CalD P w K mg base 1 "_law_in_order" ["_law_sides_here"] (spF mg fs__law_in_order)) (hg : (A.deeper (envOfC "_law_again_right" (defScope st__law_again_right) s.heap.objs.size f cdv)).guards = some []) (hr : Room 6 (A.deeper (envOfC "_law_again_right" (defScope st__law_again_right) s.heap.objs.size f cdv))) :
    PWSs (bX P w K mg base ["_law_draws_here", "_law_size", "_law_sides_here", "_law_spot", "_law_now", "_law_step", "_law_free"] "_law_again_right" (defScope st__law_again_right) f cdv A outer s H E) E (defBody st__law_again_right) w__law_again_right :=
  pws_cons (pws_set 3 (pw_bin o_add (pw_int) (pw_bin o_mod (pw_t1 o_int B.int rfl (pv_of (pw_cm 0 C__law_next hg hr pass_fn (pwa_nil)))) (pw_var 1))) sc__law_again_right.nd) (pws_cons (pws_set 4 (pw_var 2) sc__law_again_right.nd) (pws_cons (pws_for own_fn rfl (pi_rng1 B.range (pw_bin o_add (pw_bin o_mul (pw_var 1) (pw_var 1)) (pw_int))) (pg_nm 5 sc__law_again_right.nd (by first | exact Or.inl rfl | exact Or.inr rfl)) (pws_cons (pws_set 6 (pw_cd C__law_may hg hr pass_fn (pwa_cons (pw_var 1) (pwa_cons (pw_var 4) (pwa_nil)))) sc__law_again_right.nd) (pws_cons (pws_if (pwt_in (u65 hr) (pw_var 3) (pv_name 6)) (pws_one (pws_ret (pw_cmp (o_eq (u64 hr)) (pw_cd C_after_turns hg hr pass_fn (pwa_cons (pw_var 1) (pwa_cons (pw_var 4) (pwa_cons (pw_lst (pwa_cons (pw_var 3) (pwa_nil))) (pwa_nil))))) (pw_cd C__law_in_order hg hr pass_fn (pwa_cons (pw_cd C__law_turned hg hr pass_fn (pwa_cons (pw_var 4) (pwa_cons (pw_var 3) (pwa_nil)))) (pwa_nil)))))) (pws_nil)) (pws_one (pws_set 4 (pw_cd C__law_turned hg hr pass_fn (pwa_cons (pw_var 4) (pwa_cons (pw_ix (u1 hr) (pv_name 6) (pw_bin o_mod (pw_t1 o_int B.int rfl (pv_of (pw_cm 0 C__law_next hg hr pass_fn (pwa_nil)))) (pw_b1 o_len B.len rfl (pv_name 6)))) (pwa_nil)))) sc__law_again_right.nd))))) (pws_one (pws_ret (pw_bl)))))
theorem g__law_again_right {P : Program} {w : World} {K : PySem.W.Frag} {mg : Str → Option Value} {base : Heap} {fa : Addr} {fd : FuncData} (B : FreeB mg) (C__law_next : CalD P w K mg base 1 "_law_next" ["_law_draws_here"] (spM fs__law_next)) (C__law_may : CalD P w K mg base 1 "_law_may" ["_law_size", "_law_sides_here"] (spF mg fs__law_may)) (C_after_turns : CalD P w K mg base 6 "after_turns" ["points", "arrows", "turns"] (spF mg fs_after_turns)) (C__law_turned : CalD P w K mg base 1 "_law_turned" ["_law_sides_here", "_law_spot"] (spF mg fs__law_turned)) (C__law_in_order : CalD P w K mg base 1 "_law_in_order" ["_law_sides_here"] (spF mg fs__law_in_order)) (F : FunD K "_law_again_right" "_law_again_right" (defArgs st__law_again_right) (defBody st__law_again_right) (defScope st__law_again_right) [] [] fa fd) : FnG P w K mg base 7 fa fd ["_law_draws_here", "_law_size", "_law_sides_here"] (spM fs__law_again_right) :=
  fn_pureM F sc__law_again_right (fun os ds Q h => by obtain ⟨_, _, _, rfl, _⟩ := h; rfl) (fun cdv A outer s H E hg hr => d__law_again_right B C__law_next C__law_may C_after_turns C__law_turned C__law_in_order hg hr) p__law_again_right
theorem b__law_again_right {K : PySem.W.Frag} {fa : Addr} {fd : FuncData} (F : FunD K "_law_again_right" "_law_again_right" (defArgs st__law_again_right) (defBody st__law_again_right) (defScope st__law_again_right) [] [] fa fd) : Binds K fd ["_law_draws_here", "_law_size", "_law_sides_here"] [] := F.bindsN fun _ _ _ _ _ _ us hl => match us, hl with | [_, _, _], _ => rfl
theorem c__law_again_right {P : Program} {w : World} {K : PySem.W.Frag} {mg : Str → Option Value} {base : Heap} {fa : Addr} {fd : FuncData} (B : FreeB mg) (C__law_next : CalD P w K mg base 1 "_law_next" ["_law_draws_here"] (spM fs__law_next)) (C__law_may : CalD P w K mg base 1 "_law_may" ["_law_size", "_law_sides_here"] (spF mg fs__law_may)) (C_after_turns : CalD P w K mg base 6 "after_turns" ["points", "arrows", "turns"] (spF mg fs_after_turns)) (C__law_turned : CalD P w K mg base 1 "_law_turned" ["_law_sides_here", "_law_spot"] (spF mg fs__law_turned)) (C__law_in_order : CalD P w K mg base 1 "_law_in_order" ["_law_sides_here"] (spF mg fs__law_in_order)) (F : FunD K "_law_again_right" "_law_again_right" (defArgs st__law_again_right) (defBody st__law_again_right) (defScope st__law_again_right) [] [] fa fd) (m : mg "_law_again_right" = some (.ref fa)) : CalD P w K mg base 7 "_law_again_right" ["_law_draws_here", "_law_size", "_law_sides_here"] (spM fs__law_again_right) := ⟨fa, fd, g__law_again_right B C__law_next C__law_may C_after_turns C__law_turned C__law_in_order F, m, F.kp, b__law_again_right F⟩
abbrev st_law : Stmt := top 51
theorem sc_law : FnScope ["_law_script", "_law_draws_here", "_law_ring", "_law_most", "_law_size", "_law_sides_here", "_law_cell", "_law_spot"] ["_law_script"] (defScope st_law) := ⟨rfl, rfl, rfl, by decide +kernel, rfl, by decide +kernel, by decide +kernel⟩
theorem d_law {P : Program} {w : World} {K : PySem.W.Frag} {mg : Str → Option Value} {base : Heap} {f : Addr} {cdv : Value} {A : Around} {outer : List Env} {s : Shared} {H : Hp} {E : XK} (B : FreeB mg) (C__law_draws : CalD P w K mg base 1 "_law_draws" ["_law_cell"] (spF mg fs__law_draws)) (C__law_next : CalD P w K mg base 1 "_law_next" ["_law_draws_here"] (spM fs__law_next)) (C__law_bars : CalD P w K mg base 3 "_law_bars" ["_law_draws_here", "_law_size", "_law_more"] (spM fs__law_bars)) (C__law_sides : CalD P w K mg base 3 "_law_sides" ["_law_draws_here", "_law_size", "_law_bars_here"] (spM fs__law_sides)) (C__law_barred : CalD P w K mg base 2 "_law_barred" ["_law_size", "_law_sides_here"] (spF mg fs__law_barred)) (C__law_right : CalD P w K mg base 8 "_law_right" ["_law_draws_here", "_law_size", "_law_sides_here"] (spM fs__law_right)) (C__law_again_right : CalD P w K mg base 7 "_law_again_right" ["_law_draws_here", "_law_size", "_law_sides_here"] (spM fs__law_again_right)) (hg : (A.deeper (envOfC "law" (defScope st_law) s.heap.objs.size f cdv)).guards = some []) (hr : Room 8 (A.deeper (envOfC "law" (defScope st_law) s.heap.objs.size f cdv))) :
    PWSs (bX P w K mg base ["_law_script", "_law_draws_here", "_law_ring", "_law_most", "_law_size", "_law_sides_here", "_law_cell", "_law_spot"] "law" (defScope st_law) f cdv A outer s H E) E (defBody st_law) w_law :=
  pws_cons (pws_forNew (own := [("_law_cell", 6)]) 1 own_fn rfl sc_law.nd (blkOk_by (by kernel_rfl)) (pi_lst (pv_of (pw_bin o_add (pw_slScr 0 (pwo_some (pw_int))) (pw_lst (pwa_cons (pw_int) (pwa_nil)))))) (fun _ _ _ _ _ => pg_nm 6 sc_law.nd (by first | exact Or.inl rfl | exact Or.inr rfl)) (fun _ _ _ _ _ => pn_cd C__law_draws hg hr pass0 (pwa_cons (pw_var 6) (pwa_nil))) (by decide) (pws_one (pws_for own_fn rfl (pi_lst (pv_of (pw_lst (pwa_cons (pw_int) (pwa_cons (pw_int) (pwa_nil)))))) (pg_nm 3 sc_law.nd (by first | exact Or.inl rfl | exact Or.inr rfl)) (pws_cons (pws_set 4 (pw_bin o_add (pw_int) (pw_bin o_mod (pw_t1 o_int B.int rfl (pv_of (pw_cm 1 C__law_next hg hr pass_fn (pwa_nil)))) (pw_var 3))) sc_law.nd) (pws_cons (pws_set 5 (pw_cm 1 C__law_sides hg hr pass_fn (pwa_cons (pw_var 4) (pwa_cons (pw_cm 1 C__law_bars hg hr pass_fn (pwa_cons (pw_var 4) (pwa_cons (pw_int) (pwa_nil)))) (pwa_nil)))) sc_law.nd) (pws_one (pws_if (pwt_cmp (o_eq (u64 hr)) (pw_cd C__law_barred hg hr pass_fn (pwa_cons (pw_var 4) (pwa_cons (pw_var 5) (pwa_nil)))) (pw_lst (pwa_nil))) (pws_one (pws_if (pwt_of (pww_or (pwt_not (pwt_val (pw_cm 1 C__law_right hg hr pass_fn (pwa_cons (pw_var 4) (pwa_cons (pw_var 5) (pwa_nil)))))) (pww_or1 (pwt_not (pwt_val (pw_cm 1 C__law_again_right hg hr pass_fn (pwa_cons (pw_var 4) (pwa_cons (pw_var 5) (pwa_nil))))))))) (pws_one (pws_ret (pw_bl))) (pws_nil))) (pws_nil)))))))) (pws_cons (pws_set 2 (pw_bin o_add (pw_lc (own := [("_law_spot", 7)]) rfl sc_law.nd (blkOk_by (by kernel_rfl)) (pi_rng2 B.range (pw_int) (pw_int)) (fun _ _ _ _ _ => pg_nm 7 sc_law.nd (by first | exact Or.inl rfl | exact Or.inr rfl)) (fun _ _ _ _ _ => pwts_nil) (fun _ _ _ _ _ => pw_lst (pwa_cons (pw_var 7) (pwa_cons (pw_bin o_add (pw_var 7) (pw_int)) (pwa_nil)))) (by decide)) (pw_lst (pwa_cons (pw_lst (pwa_cons (pw_int) (pwa_cons (pw_int) (pwa_nil)))) (pwa_nil)))) sc_law.nd) (pws_cons (pws_if (pwt_of (pww_or (pwt_not (pwt_val (pw_cmn C__law_right hg hr pass_fn (pn_cd C__law_draws hg hr pass_fn (pwa_cons (pw_int) (pwa_nil))) (pwa_cons (pw_int) (pwa_cons (pw_var 2) (pwa_nil)))))) (pww_or1 (pwt_not (pwt_val (pw_cmn C__law_again_right hg hr pass_fn (pn_cd C__law_draws hg hr pass_fn (pwa_cons (pw_int) (pwa_nil))) (pwa_cons (pw_int) (pwa_cons (pw_var 2) (pwa_nil))))))))) (pws_one (pws_ret (pw_bl))) (pws_nil)) (pws_one (pws_ret (pw_and (pw_cmn C__law_right hg hr pass_fn (pn_cd C__law_draws hg hr pass_fn (pwa_cons (pw_int) (pwa_nil))) (pwa_cons (pw_int) (pwa_cons (pw_lst (pwa_nil)) (pwa_nil)))) (pw_one (pw_cmn C__law_right hg hr pass_fn (pn_cd C__law_draws hg hr pass_fn (pwa_cons (pw_int) (pwa_nil))) (pwa_cons (pw_int) (pwa_cons (pw_lst (pwa_cons (pw_lst (pwa_cons (pw_int) (pwa_cons (pw_int) (pwa_nil)))) (pwa_cons (pw_lst (pwa_cons (pw_int) (pwa_cons (pw_int) (pwa_nil)))) (pwa_cons (pw_lst (pwa_cons (pw_int) (pwa_cons (pw_int) (pwa_nil)))) (pwa_nil))))) (pwa_nil))))))))))
theorem fn_main {P : Program} {w : World} {K : PySem.W.Frag} {mg : Str → Option Value} {base : Heap} {fa : Addr} {fd : FuncData} (B : FreeB mg) (C__law_draws : CalD P w K mg base 1 "_law_draws" ["_law_cell"] (spF mg fs__law_draws)) (C__law_next : CalD P w K mg base 1 "_law_next" ["_law_draws_here"] (spM fs__law_next)) (C__law_bars : CalD P w K mg base 3 "_law_bars" ["_law_draws_here", "_law_size", "_law_more"] (spM fs__law_bars)) (C__law_sides : CalD P w K mg base 3 "_law_sides" ["_law_draws_here", "_law_size", "_law_bars_here"] (spM fs__law_sides)) (C__law_barred : CalD P w K mg base 2 "_law_barred" ["_law_size", "_law_sides_here"] (spF mg fs__law_barred)) (C__law_right : CalD P w K mg base 8 "_law_right" ["_law_draws_here", "_law_size", "_law_sides_here"] (spM fs__law_right)) (C__law_again_right : CalD P w K mg base 7 "_law_again_right" ["_law_draws_here", "_law_size", "_law_sides_here"] (spM fs__law_again_right)) (F : FunD K "law" "law" (defArgs st_law) (defBody st_law) (defScope st_law) [] [] fa fd) : FnG P w K mg base 9 fa fd ["_law_script"] (spLw K 63) :=
  fn_law F sc_law (fun cdv A outer s H E hg hr => d_law B C__law_draws C__law_next C__law_bars C__law_sides C__law_barred C__law_right C__law_again_right hg hr) p_law
def dd__law_draws : He.DefD := ⟨("_law_draws", none), "_law_draws", "_law_draws", defArgs st__law_draws, defBody st__law_draws, defScope st__law_draws, [], []⟩
def dd__law_next : He.DefD := ⟨("_law_next", none), "_law_next", "_law_next", defArgs st__law_next, defBody st__law_next, defScope st__law_next, [], []⟩
def dd__law_shuffled : He.DefD := ⟨("_law_shuffled", none), "_law_shuffled", "_law_shuffled", defArgs st__law_shuffled, defBody st__law_shuffled, defScope st__law_shuffled, [], []⟩
def dd__law_bars : He.DefD := ⟨("_law_bars", none), "_law_bars", "_law_bars", defArgs st__law_bars, defBody st__law_bars, defScope st__law_bars, [], []⟩
def dd__law_sides : He.DefD := ⟨("_law_sides", none), "_law_sides", "_law_sides", defArgs st__law_sides, defBody st__law_sides, defScope st__law_sides, [], []⟩
def dd__law_onward : He.DefD := ⟨("_law_onward", none), "_law_onward", "_law_onward", defArgs st__law_onward, defBody st__law_onward, defScope st__law_onward, [], []⟩
def dd__law_barred : He.DefD := ⟨("_law_barred", none), "_law_barred", "_law_barred", defArgs st__law_barred, defBody st__law_barred, defScope st__law_barred, [], []⟩
def dd__law_in_order : He.DefD := ⟨("_law_in_order", none), "_law_in_order", "_law_in_order", defArgs st__law_in_order, defBody st__law_in_order, defScope st__law_in_order, [], []⟩
def dd__law_may : He.DefD := ⟨("_law_may", none), "_law_may", "_law_may", defArgs st__law_may, defBody st__law_may, defScope st__law_may, [], []⟩
def dd__law_turned : He.DefD := ⟨("_law_turned", none), "_law_turned", "_law_turned", defArgs st__law_turned, defBody st__law_turned, defScope st__law_turned, [], []⟩
def dd__law_played : He.DefD := ⟨("_law_played", none), "_law_played", "_law_played", defArgs st__law_played, defBody st__law_played, defScope st__law_played, [], []⟩
def dd__law_filled : He.DefD := ⟨("_law_filled", none), "_law_filled", "_law_filled", defArgs st__law_filled, defBody st__law_filled, defScope st__law_filled, [], []⟩
def dd_is_whole : He.DefD := ⟨("is_whole", none), "is_whole", "is_whole", defArgs st_is_whole, defBody st_is_whole, defScope st_is_whole, [], []⟩
def dd_check_number : He.DefD := ⟨("check_number", none), "check_number", "check_number", defArgs st_check_number, defBody st_check_number, defScope st_check_number, [], []⟩
def dd_check_points : He.DefD := ⟨("check_points", none), "check_points", "check_points", defArgs st_check_points, defBody st_check_points, defScope st_check_points, [], []⟩
def dd_is_pair : He.DefD := ⟨("is_pair", none), "is_pair", "is_pair", defArgs st_is_pair, defBody st_is_pair, defScope st_is_pair, [], []⟩
def dd_wrong_pair : He.DefD := ⟨("wrong_pair", none), "wrong_pair", "wrong_pair", defArgs st_wrong_pair, defBody st_wrong_pair, defScope st_wrong_pair, [], []⟩
def dd_reached_in : He.DefD := ⟨("reached_in", none), "reached_in", "reached_in", defArgs st_reached_in, defBody st_reached_in, defScope st_reached_in, [], []⟩
def dd_check_hanging : He.DefD := ⟨("check_hanging", none), "check_hanging", "check_hanging", defArgs st_check_hanging, defBody st_check_hanging, defScope st_check_hanging, [], []⟩
def dd_check_arrows : He.DefD := ⟨("check_arrows", none), "check_arrows", "check_arrows", defArgs st_check_arrows, defBody st_check_arrows, defScope st_check_arrows, [], []⟩
def dd_check_both : He.DefD := ⟨("check_both", none), "check_both", "check_both", defArgs st_check_both, defBody st_check_both, defScope st_check_both, [], []⟩
def dd_check_turns : He.DefD := ⟨("check_turns", none), "check_turns", "check_turns", defArgs st_check_turns, defBody st_check_turns, defScope st_check_turns, [], []⟩
def dd_may_in : He.DefD := ⟨("may_in", none), "may_in", "may_in", defArgs st_may_in, defBody st_may_in, defScope st_may_in, [], []⟩
def dd_turned_in : He.DefD := ⟨("turned_in", none), "turned_in", "turned_in", defArgs st_turned_in, defBody st_turned_in, defScope st_turned_in, [], []⟩
def dd_after_in : He.DefD := ⟨("after_in", none), "after_in", "after_in", defArgs st_after_in, defBody st_after_in, defScope st_after_in, [], []⟩
def dd_in_order : He.DefD := ⟨("in_order", none), "in_order", "in_order", defArgs st_in_order, defBody st_in_order, defScope st_in_order, [], []⟩
def dd_after_turns : He.DefD := ⟨("after_turns", none), "after_turns", "after_turns", defArgs st_after_turns, defBody st_after_turns, defScope st_after_turns, [], []⟩
def dd_heads_in : He.DefD := ⟨("heads_in", none), "heads_in", "heads_in", defArgs st_heads_in, defBody st_heads_in, defScope st_heads_in, [], []⟩
def dd_check_goal : He.DefD := ⟨("check_goal", none), "check_goal", "check_goal", defArgs st_check_goal, defBody st_check_goal, defScope st_check_goal, [], []⟩
def dd_check_two : He.DefD := ⟨("check_two", none), "check_two", "check_two", defArgs st_check_two, defBody st_check_two, defScope st_check_two, [], []⟩
def dd_steps_in : He.DefD := ⟨("steps_in", none), "steps_in", "steps_in", defArgs st_steps_in, defBody st_steps_in, defScope st_steps_in, [], []⟩
def dd_differences_in : He.DefD := ⟨("differences_in", none), "differences_in", "differences_in", defArgs st_differences_in, defBody st_differences_in, defScope st_differences_in, [], []⟩
def dd_barred_in : He.DefD := ⟨("barred_in", none), "barred_in", "barred_in", defArgs st_barred_in, defBody st_barred_in, defScope st_barred_in, [], []⟩
def dd_table_in : He.DefD := ⟨("table_in", none), "table_in", "table_in", defArgs st_table_in, defBody st_table_in, defScope st_table_in, [], []⟩
def dd_least_table : He.DefD := ⟨("least_table", none), "least_table", "least_table", defArgs st_least_table, defBody st_least_table, defScope st_least_table, [], []⟩
def dd_run_in : He.DefD := ⟨("run_in", none), "run_in", "run_in", defArgs st_run_in, defBody st_run_in, defScope st_run_in, [], []⟩
def dd_run_to : He.DefD := ⟨("run_to", none), "run_to", "run_to", defArgs st_run_to, defBody st_run_to, defScope st_run_to, [], []⟩
def dd_may_turn : He.DefD := ⟨("may_turn", none), "may_turn", "may_turn", defArgs st_may_turn, defBody st_may_turn, defScope st_may_turn, [], []⟩
def dd__law_right : He.DefD := ⟨("_law_right", none), "_law_right", "_law_right", defArgs st__law_right, defBody st__law_right, defScope st__law_right, [], []⟩
def dd__law_again_right : He.DefD := ⟨("_law_again_right", none), "_law_again_right", "_law_again_right", defArgs st__law_again_right, defBody st__law_again_right, defScope st__law_again_right, [], []⟩
def dd_law : He.DefD := ⟨("law", none), "law", "law", defArgs st_law, defBody st_law, defScope st_law, [], []⟩
def fn : List He.DefD := dd__law_draws :: dd__law_next :: dd__law_shuffled :: dd__law_bars :: dd__law_sides :: dd__law_onward :: dd__law_barred :: dd__law_in_order :: dd__law_may :: dd__law_turned :: dd__law_played :: dd__law_filled :: dd_is_whole :: dd_check_number :: dd_check_points :: dd_is_pair :: dd_wrong_pair :: dd_reached_in :: dd_check_hanging :: dd_check_arrows :: dd_check_both :: dd_check_turns :: dd_may_in :: dd_turned_in :: dd_after_in :: dd_in_order :: dd_after_turns :: dd_heads_in :: dd_check_goal :: dd_check_two :: dd_steps_in :: dd_differences_in :: dd_barred_in :: dd_table_in :: dd_least_table :: dd_run_in :: dd_run_to :: dd_may_turn :: dd__law_right :: dd__law_again_right :: dd_law :: []
def fa : List He.Fa := He.Fa.glo "_law_draws" :: He.Fa.glo "_law_next" :: He.Fa.glo "_law_shuffled" :: He.Fa.glo "_law_bars" :: He.Fa.glo "_law_sides" :: He.Fa.glo "_law_onward" :: He.Fa.glo "_law_barred" :: He.Fa.glo "_law_in_order" :: He.Fa.glo "_law_may" :: He.Fa.glo "_law_turned" :: He.Fa.glo "_law_played" :: He.Fa.glo "_law_filled" :: He.Fa.glo "is_whole" :: He.Fa.glo "check_number" :: He.Fa.glo "check_points" :: He.Fa.glo "is_pair" :: He.Fa.glo "wrong_pair" :: He.Fa.glo "reached_in" :: He.Fa.glo "check_hanging" :: He.Fa.glo "check_arrows" :: He.Fa.glo "check_both" :: He.Fa.glo "check_turns" :: He.Fa.glo "may_in" :: He.Fa.glo "turned_in" :: He.Fa.glo "after_in" :: He.Fa.glo "in_order" :: He.Fa.glo "after_turns" :: He.Fa.glo "heads_in" :: He.Fa.glo "check_goal" :: He.Fa.glo "check_two" :: He.Fa.glo "steps_in" :: He.Fa.glo "differences_in" :: He.Fa.glo "barred_in" :: He.Fa.glo "table_in" :: He.Fa.glo "least_table" :: He.Fa.glo "run_in" :: He.Fa.glo "run_to" :: He.Fa.glo "may_turn" :: He.Fa.glo "_law_right" :: He.Fa.glo "_law_again_right" :: He.Fa.glo "law" :: He.Fa.free "len" :: He.Fa.free "min" :: He.Fa.free "max" :: He.Fa.free "sum" :: He.Fa.free "all" :: He.Fa.free "any" :: He.Fa.free "int" :: He.Fa.free "bool" :: He.Fa.free "list" :: He.Fa.free "tuple" :: He.Fa.free "range" :: He.Fa.free "enumerate" :: He.Fa.free "zip" :: He.Fa.free "sorted" :: He.Fa.free "set" :: He.Fa.free "repr" :: He.Fa.free "isinstance" :: He.Fa.free "divmod" :: He.Fa.int "MOST_POINTS" 12 :: He.Fa.int "MOST_LINES" 30 :: []
def names : List PySem.Str := "InvalidNumber" :: "InvalidArrows" :: "NotHanging" :: "UnlikeNets" :: "InvalidTurns" :: "MOST_POINTS" :: "MOST_LINES" :: "is_whole" :: "check_number" :: "check_points" :: "is_pair" :: "wrong_pair" :: "reached_in" :: "check_hanging" :: "check_arrows" :: "check_both" :: "check_turns" :: "in_order" :: "may_in" :: "turned_in" :: "barred_in" :: "may_turn" :: "after_in" :: "after_turns" :: "heads_in" :: "check_goal" :: "steps_in" :: "differences_in" :: "table_in" :: "run_in" :: "check_two" :: "least_table" :: "run_to" :: "_law_draws" :: "_law_next" :: "_law_shuffled" :: "_law_bars" :: "_law_sides" :: "_law_may" :: "_law_turned" :: "_law_in_order" :: "_law_onward" :: "_law_barred" :: "_law_played" :: "_law_filled" :: "_law_right" :: "_law_again_right" :: []
abbrev R : PySem.W.OpenRow := PySem.W.OpenLaw.row PySem.Challenge.rw_yieldturns_k11_whole_all_once
abbrev hk : PySem.W.Hook := He.hookD 4 fa fn
def ob (s : PySem.W.SharedT) : He.AlD := He.obsDG 4 fa fn (HandSHeadRun.getT s)
theorem ob_eq (s : PySem.W.SharedT) : ob s = hk.obs s.abs := He.obsDG_eq (HandSHeadRun.getT_eq s)
set_option maxHeartbeats 0 in
theorem run (w : World) : HandSHeadRun.RunEq R (PySem.W.view R.prog [51]) hk ob 6000 names w := by
  intro os
  kernel_rfl
theorem facts {P : Program} {w : World} {K : PySem.W.Frag} {h : Heap} {mg : Str → Option Value} {f : Addr} (X : K.In h) (G : h.Ns mainGlobals mg) (hfa : mg ("law" : Str) = some (.ref f)) (c : He.SaysD fa fn K) :
    ∃ fd : FuncData, (∀ (s : Shared) (v : Value), BindsTo s fd ⟨[v], []⟩ [("_law_script", v)]) ∧ ∀ base : Heap, K.In base → base.Ns mainGlobals mg → FnG P w K mg base 9 f fd ["_law_script"] (spLw K 63) := by
  have B : FreeB mg := ⟨He.free_ok X G (c.fact 41 (f := .free "len") rfl), He.free_ok X G (c.fact 42 (f := .free "min") rfl), He.free_ok X G (c.fact 43 (f := .free "max") rfl), He.free_ok X G (c.fact 44 (f := .free "sum") rfl), He.free_ok X G (c.fact 45 (f := .free "all") rfl), He.free_ok X G (c.fact 46 (f := .free "any") rfl), He.free_ok X G (c.fact 47 (f := .free "int") rfl), He.free_ok X G (c.fact 48 (f := .free "bool") rfl), He.free_ok X G (c.fact 49 (f := .free "list") rfl), He.free_ok X G (c.fact 50 (f := .free "tuple") rfl), He.free_ok X G (c.fact 51 (f := .free "range") rfl), He.free_ok X G (c.fact 52 (f := .free "enumerate") rfl), He.free_ok X G (c.fact 53 (f := .free "zip") rfl), He.free_ok X G (c.fact 54 (f := .free "sorted") rfl), He.free_ok X G (c.fact 55 (f := .free "set") rfl), He.free_ok X G (c.fact 56 (f := .free "repr") rfl), He.free_ok X G (c.fact 57 (f := .free "isinstance") rfl), He.free_ok X G (c.fact 58 (f := .free "divmod") rfl)⟩
  have g_MOST_POINTS := He.int_ok X G (c.fact 59 (f := .int "MOST_POINTS" 12) rfl)
  have g_MOST_LINES := He.int_ok X G (c.fact 60 (f := .int "MOST_LINES" 30) rfl)
  obtain ⟨fd__law_draws, F__law_draws⟩ := c.def_ 0 (d := dd__law_draws) rfl
  have m__law_draws := He.glo_ok X G (c.fact 0 (f := .glo "_law_draws") rfl)
  obtain ⟨fd__law_next, F__law_next⟩ := c.def_ 1 (d := dd__law_next) rfl
  have m__law_next := He.glo_ok X G (c.fact 1 (f := .glo "_law_next") rfl)
  obtain ⟨fd__law_shuffled, F__law_shuffled⟩ := c.def_ 2 (d := dd__law_shuffled) rfl
  have m__law_shuffled := He.glo_ok X G (c.fact 2 (f := .glo "_law_shuffled") rfl)
  obtain ⟨fd__law_bars, F__law_bars⟩ := c.def_ 3 (d := dd__law_bars) rfl
  have m__law_bars := He.glo_ok X G (c.fact 3 (f := .glo "_law_bars") rfl)
  obtain ⟨fd__law_sides, F__law_sides⟩ := c.def_ 4 (d := dd__law_sides) rfl
  have m__law_sides := He.glo_ok X G (c.fact 4 (f := .glo "_law_sides") rfl)
  obtain ⟨fd__law_onward, F__law_onward⟩ := c.def_ 5 (d := dd__law_onward) rfl
  have m__law_onward := He.glo_ok X G (c.fact 5 (f := .glo "_law_onward") rfl)
  obtain ⟨fd__law_barred, F__law_barred⟩ := c.def_ 6 (d := dd__law_barred) rfl
  have m__law_barred := He.glo_ok X G (c.fact 6 (f := .glo "_law_barred") rfl)
  obtain ⟨fd__law_in_order, F__law_in_order⟩ := c.def_ 7 (d := dd__law_in_order) rfl
  have m__law_in_order := He.glo_ok X G (c.fact 7 (f := .glo "_law_in_order") rfl)
  obtain ⟨fd__law_may, F__law_may⟩ := c.def_ 8 (d := dd__law_may) rfl
  have m__law_may := He.glo_ok X G (c.fact 8 (f := .glo "_law_may") rfl)
  obtain ⟨fd__law_turned, F__law_turned⟩ := c.def_ 9 (d := dd__law_turned) rfl
  have m__law_turned := He.glo_ok X G (c.fact 9 (f := .glo "_law_turned") rfl)
  obtain ⟨fd__law_played, F__law_played⟩ := c.def_ 10 (d := dd__law_played) rfl
  have m__law_played := He.glo_ok X G (c.fact 10 (f := .glo "_law_played") rfl)
  obtain ⟨fd__law_filled, F__law_filled⟩ := c.def_ 11 (d := dd__law_filled) rfl
  have m__law_filled := He.glo_ok X G (c.fact 11 (f := .glo "_law_filled") rfl)
  obtain ⟨fd_is_whole, F_is_whole⟩ := c.def_ 12 (d := dd_is_whole) rfl
  have m_is_whole := He.glo_ok X G (c.fact 12 (f := .glo "is_whole") rfl)
  obtain ⟨fd_check_number, F_check_number⟩ := c.def_ 13 (d := dd_check_number) rfl
  have m_check_number := He.glo_ok X G (c.fact 13 (f := .glo "check_number") rfl)
  obtain ⟨fd_check_points, F_check_points⟩ := c.def_ 14 (d := dd_check_points) rfl
  have m_check_points := He.glo_ok X G (c.fact 14 (f := .glo "check_points") rfl)
  obtain ⟨fd_is_pair, F_is_pair⟩ := c.def_ 15 (d := dd_is_pair) rfl
  have m_is_pair := He.glo_ok X G (c.fact 15 (f := .glo "is_pair") rfl)
  obtain ⟨fd_wrong_pair, F_wrong_pair⟩ := c.def_ 16 (d := dd_wrong_pair) rfl
  have m_wrong_pair := He.glo_ok X G (c.fact 16 (f := .glo "wrong_pair") rfl)
  obtain ⟨fd_reached_in, F_reached_in⟩ := c.def_ 17 (d := dd_reached_in) rfl
  have m_reached_in := He.glo_ok X G (c.fact 17 (f := .glo "reached_in") rfl)
  obtain ⟨fd_check_hanging, F_check_hanging⟩ := c.def_ 18 (d := dd_check_hanging) rfl
  have m_check_hanging := He.glo_ok X G (c.fact 18 (f := .glo "check_hanging") rfl)
  obtain ⟨fd_check_arrows, F_check_arrows⟩ := c.def_ 19 (d := dd_check_arrows) rfl
  have m_check_arrows := He.glo_ok X G (c.fact 19 (f := .glo "check_arrows") rfl)
  obtain ⟨fd_check_both, F_check_both⟩ := c.def_ 20 (d := dd_check_both) rfl
  have m_check_both := He.glo_ok X G (c.fact 20 (f := .glo "check_both") rfl)
  obtain ⟨fd_check_turns, F_check_turns⟩ := c.def_ 21 (d := dd_check_turns) rfl
  have m_check_turns := He.glo_ok X G (c.fact 21 (f := .glo "check_turns") rfl)
  obtain ⟨fd_may_in, F_may_in⟩ := c.def_ 22 (d := dd_may_in) rfl
  have m_may_in := He.glo_ok X G (c.fact 22 (f := .glo "may_in") rfl)
  obtain ⟨fd_turned_in, F_turned_in⟩ := c.def_ 23 (d := dd_turned_in) rfl
  have m_turned_in := He.glo_ok X G (c.fact 23 (f := .glo "turned_in") rfl)
  obtain ⟨fd_after_in, F_after_in⟩ := c.def_ 24 (d := dd_after_in) rfl
  have m_after_in := He.glo_ok X G (c.fact 24 (f := .glo "after_in") rfl)
  obtain ⟨fd_in_order, F_in_order⟩ := c.def_ 25 (d := dd_in_order) rfl
  have m_in_order := He.glo_ok X G (c.fact 25 (f := .glo "in_order") rfl)
  obtain ⟨fd_after_turns, F_after_turns⟩ := c.def_ 26 (d := dd_after_turns) rfl
  have m_after_turns := He.glo_ok X G (c.fact 26 (f := .glo "after_turns") rfl)
  obtain ⟨fd_heads_in, F_heads_in⟩ := c.def_ 27 (d := dd_heads_in) rfl
  have m_heads_in := He.glo_ok X G (c.fact 27 (f := .glo "heads_in") rfl)
  obtain ⟨fd_check_goal, F_check_goal⟩ := c.def_ 28 (d := dd_check_goal) rfl
  have m_check_goal := He.glo_ok X G (c.fact 28 (f := .glo "check_goal") rfl)
  obtain ⟨fd_check_two, F_check_two⟩ := c.def_ 29 (d := dd_check_two) rfl
  have m_check_two := He.glo_ok X G (c.fact 29 (f := .glo "check_two") rfl)
  obtain ⟨fd_steps_in, F_steps_in⟩ := c.def_ 30 (d := dd_steps_in) rfl
  have m_steps_in := He.glo_ok X G (c.fact 30 (f := .glo "steps_in") rfl)
  obtain ⟨fd_differences_in, F_differences_in⟩ := c.def_ 31 (d := dd_differences_in) rfl
  have m_differences_in := He.glo_ok X G (c.fact 31 (f := .glo "differences_in") rfl)
  obtain ⟨fd_barred_in, F_barred_in⟩ := c.def_ 32 (d := dd_barred_in) rfl
  have m_barred_in := He.glo_ok X G (c.fact 32 (f := .glo "barred_in") rfl)
  obtain ⟨fd_table_in, F_table_in⟩ := c.def_ 33 (d := dd_table_in) rfl
  have m_table_in := He.glo_ok X G (c.fact 33 (f := .glo "table_in") rfl)
  obtain ⟨fd_least_table, F_least_table⟩ := c.def_ 34 (d := dd_least_table) rfl
  have m_least_table := He.glo_ok X G (c.fact 34 (f := .glo "least_table") rfl)
  obtain ⟨fd_run_in, F_run_in⟩ := c.def_ 35 (d := dd_run_in) rfl
  have m_run_in := He.glo_ok X G (c.fact 35 (f := .glo "run_in") rfl)
  obtain ⟨fd_run_to, F_run_to⟩ := c.def_ 36 (d := dd_run_to) rfl
  have m_run_to := He.glo_ok X G (c.fact 36 (f := .glo "run_to") rfl)
  obtain ⟨fd_may_turn, F_may_turn⟩ := c.def_ 37 (d := dd_may_turn) rfl
  have m_may_turn := He.glo_ok X G (c.fact 37 (f := .glo "may_turn") rfl)
  obtain ⟨fd__law_right, F__law_right⟩ := c.def_ 38 (d := dd__law_right) rfl
  have m__law_right := He.glo_ok X G (c.fact 38 (f := .glo "_law_right") rfl)
  obtain ⟨fd__law_again_right, F__law_again_right⟩ := c.def_ 39 (d := dd__law_again_right) rfl
  have m__law_again_right := He.glo_ok X G (c.fact 39 (f := .glo "_law_again_right") rfl)
  obtain ⟨fd_law, F_law⟩ := c.def_ 40 (d := dd_law) rfl
  have m_law := He.glo_ok X G (c.fact 40 (f := .glo "law") rfl)
  have e := hfa.symm.trans m_law
  cases e
  have bl := FunD.bindsA (ps := ["_law_script"]) F_law fun _ _ _ _ _ _ us hl => match us, hl with | [_], _ => rfl
  refine ⟨fd_law, fun s v => bl s [v] rfl, fun base _ _ => ?_⟩
  have G__law_draws := g__law_draws (P := P) (w := w) (base := base) B  F__law_draws
  have C__law_draws := c__law_draws (P := P) (w := w) (base := base) B  F__law_draws m__law_draws
  have G__law_next := g__law_next (P := P) (w := w) (base := base) B  F__law_next
  have C__law_next := c__law_next (P := P) (w := w) (base := base) B  F__law_next m__law_next
  have G__law_shuffled := g__law_shuffled (P := P) (w := w) (base := base) B C__law_next F__law_shuffled
  have C__law_shuffled := c__law_shuffled (P := P) (w := w) (base := base) B C__law_next F__law_shuffled m__law_shuffled
  have G__law_bars := g__law_bars (P := P) (w := w) (base := base) B C__law_shuffled C__law_next F__law_bars
  have C__law_bars := c__law_bars (P := P) (w := w) (base := base) B C__law_shuffled C__law_next F__law_bars m__law_bars
  have G__law_sides := g__law_sides (P := P) (w := w) (base := base) B C__law_next C__law_shuffled F__law_sides
  have C__law_sides := c__law_sides (P := P) (w := w) (base := base) B C__law_next C__law_shuffled F__law_sides m__law_sides
  have G__law_onward := g__law_onward (P := P) (w := w) (base := base) B  F__law_onward
  have C__law_onward := c__law_onward (P := P) (w := w) (base := base) B  F__law_onward m__law_onward
  have G__law_barred := g__law_barred (P := P) (w := w) (base := base) B C__law_onward F__law_barred
  have C__law_barred := c__law_barred (P := P) (w := w) (base := base) B C__law_onward F__law_barred m__law_barred
  have G__law_in_order := g__law_in_order (P := P) (w := w) (base := base) B  F__law_in_order
  have C__law_in_order := c__law_in_order (P := P) (w := w) (base := base) B  F__law_in_order m__law_in_order
  have G__law_may := g__law_may (P := P) (w := w) (base := base) B  F__law_may
  have C__law_may := c__law_may (P := P) (w := w) (base := base) B  F__law_may m__law_may
  have G__law_turned := g__law_turned (P := P) (w := w) (base := base) B  F__law_turned
  have C__law_turned := c__law_turned (P := P) (w := w) (base := base) B  F__law_turned m__law_turned
  have G__law_played := g__law_played (P := P) (w := w) (base := base) B C__law_next C__law_may C__law_turned F__law_played
  have C__law_played := c__law_played (P := P) (w := w) (base := base) B C__law_next C__law_may C__law_turned F__law_played m__law_played
  have G__law_filled := g__law_filled (P := P) (w := w) (base := base) B C__law_may C__law_next C__law_turned F__law_filled
  have C__law_filled := c__law_filled (P := P) (w := w) (base := base) B C__law_may C__law_next C__law_turned F__law_filled m__law_filled
  have G_is_whole := g_is_whole (P := P) (w := w) (base := base) B  F_is_whole
  have C_is_whole := c_is_whole (P := P) (w := w) (base := base) B  F_is_whole m_is_whole
  have G_check_number := g_check_number (P := P) (w := w) (base := base) B C_is_whole F_check_number
  have C_check_number := c_check_number (P := P) (w := w) (base := base) B C_is_whole F_check_number m_check_number
  have G_check_points := g_check_points (P := P) (w := w) (base := base) B g_MOST_POINTS C_check_number F_check_points
  have C_check_points := c_check_points (P := P) (w := w) (base := base) B g_MOST_POINTS C_check_number F_check_points m_check_points
  have G_is_pair := g_is_pair (P := P) (w := w) (base := base) B C_is_whole F_is_pair
  have C_is_pair := c_is_pair (P := P) (w := w) (base := base) B C_is_whole F_is_pair m_is_pair
  have G_wrong_pair := g_wrong_pair (P := P) (w := w) (base := base) B C_is_pair F_wrong_pair
  have C_wrong_pair := c_wrong_pair (P := P) (w := w) (base := base) B C_is_pair F_wrong_pair m_wrong_pair
  have G_reached_in := g_reached_in (P := P) (w := w) (base := base) B  F_reached_in
  have C_reached_in := c_reached_in (P := P) (w := w) (base := base) B  F_reached_in m_reached_in
  have G_check_hanging := g_check_hanging (P := P) (w := w) (base := base) B C_reached_in F_check_hanging
  have C_check_hanging := c_check_hanging (P := P) (w := w) (base := base) B C_reached_in F_check_hanging m_check_hanging
  have G_check_arrows := g_check_arrows (P := P) (w := w) (base := base) B g_MOST_LINES C_wrong_pair C_check_hanging F_check_arrows
  have C_check_arrows := c_check_arrows (P := P) (w := w) (base := base) B g_MOST_LINES C_wrong_pair C_check_hanging F_check_arrows m_check_arrows
  have G_check_both := g_check_both (P := P) (w := w) (base := base) B C_check_points C_check_arrows F_check_both
  have C_check_both := c_check_both (P := P) (w := w) (base := base) B C_check_points C_check_arrows F_check_both m_check_both
  have G_check_turns := g_check_turns (P := P) (w := w) (base := base) B C_is_whole F_check_turns
  have C_check_turns := c_check_turns (P := P) (w := w) (base := base) B C_is_whole F_check_turns m_check_turns
  have G_may_in := g_may_in (P := P) (w := w) (base := base) B  F_may_in
  have C_may_in := c_may_in (P := P) (w := w) (base := base) B  F_may_in m_may_in
  have G_turned_in := g_turned_in (P := P) (w := w) (base := base) B  F_turned_in
  have C_turned_in := c_turned_in (P := P) (w := w) (base := base) B  F_turned_in m_turned_in
  have G_after_in := g_after_in (P := P) (w := w) (base := base) B C_may_in C_turned_in F_after_in
  have C_after_in := c_after_in (P := P) (w := w) (base := base) B C_may_in C_turned_in F_after_in m_after_in
  have G_in_order := g_in_order (P := P) (w := w) (base := base) B  F_in_order
  have C_in_order := c_in_order (P := P) (w := w) (base := base) B  F_in_order m_in_order
  have G_after_turns := g_after_turns (P := P) (w := w) (base := base) B C_check_both C_check_turns C_after_in C_in_order F_after_turns
  have C_after_turns := c_after_turns (P := P) (w := w) (base := base) B C_check_both C_check_turns C_after_in C_in_order F_after_turns m_after_turns
  have G_heads_in := g_heads_in (P := P) (w := w) (base := base) B  F_heads_in
  have C_heads_in := c_heads_in (P := P) (w := w) (base := base) B  F_heads_in m_heads_in
  have G_check_goal := g_check_goal (P := P) (w := w) (base := base) B C_check_arrows C_heads_in F_check_goal
  have C_check_goal := c_check_goal (P := P) (w := w) (base := base) B C_check_arrows C_heads_in F_check_goal m_check_goal
  have G_check_two := g_check_two (P := P) (w := w) (base := base) B C_check_both C_check_goal F_check_two
  have C_check_two := c_check_two (P := P) (w := w) (base := base) B C_check_both C_check_goal F_check_two m_check_two
  have G_steps_in := g_steps_in (P := P) (w := w) (base := base) B C_heads_in F_steps_in
  have C_steps_in := c_steps_in (P := P) (w := w) (base := base) B C_heads_in F_steps_in m_steps_in
  have G_differences_in := g_differences_in (P := P) (w := w) (base := base) B C_steps_in F_differences_in
  have C_differences_in := c_differences_in (P := P) (w := w) (base := base) B C_steps_in F_differences_in m_differences_in
  have G_barred_in := g_barred_in (P := P) (w := w) (base := base) B  F_barred_in
  have C_barred_in := c_barred_in (P := P) (w := w) (base := base) B  F_barred_in m_barred_in
  have G_table_in := g_table_in (P := P) (w := w) (base := base) B C_differences_in C_barred_in F_table_in
  have C_table_in := c_table_in (P := P) (w := w) (base := base) B C_differences_in C_barred_in F_table_in m_table_in
  have G_least_table := g_least_table (P := P) (w := w) (base := base) B C_check_two C_table_in F_least_table
  have C_least_table := c_least_table (P := P) (w := w) (base := base) B C_check_two C_table_in F_least_table m_least_table
  have G_run_in := g_run_in (P := P) (w := w) (base := base) B C_may_in C_turned_in F_run_in
  have C_run_in := c_run_in (P := P) (w := w) (base := base) B C_may_in C_turned_in F_run_in m_run_in
  have G_run_to := g_run_to (P := P) (w := w) (base := base) B C_check_two C_table_in C_run_in F_run_to
  have C_run_to := c_run_to (P := P) (w := w) (base := base) B C_check_two C_table_in C_run_in F_run_to m_run_to
  have G_may_turn := g_may_turn (P := P) (w := w) (base := base) B C_check_both C_may_in F_may_turn
  have C_may_turn := c_may_turn (P := P) (w := w) (base := base) B C_check_both C_may_in F_may_turn m_may_turn
  have G__law_right := g__law_right (P := P) (w := w) (base := base) B C__law_in_order C__law_played C__law_next C__law_filled C_after_turns C_least_table C_run_to C_may_turn C__law_shuffled F__law_right
  have C__law_right := c__law_right (P := P) (w := w) (base := base) B C__law_in_order C__law_played C__law_next C__law_filled C_after_turns C_least_table C_run_to C_may_turn C__law_shuffled F__law_right m__law_right
  have G__law_again_right := g__law_again_right (P := P) (w := w) (base := base) B C__law_next C__law_may C_after_turns C__law_turned C__law_in_order F__law_again_right
  have C__law_again_right := c__law_again_right (P := P) (w := w) (base := base) B C__law_next C__law_may C_after_turns C__law_turned C__law_in_order F__law_again_right m__law_again_right
  exact fn_main B C__law_draws C__law_next C__law_bars C__law_sides C__law_barred C__law_right C__law_again_right F_law
end G
open PySem PySem.W PySem.Calls PyProof.Rows
theorem PySem.Challenge.cw_yieldturns_k11_whole_all_once_holds : PySem.Challenge.rw_yieldturns_k11_whole_all_once.Holds := by
  w_on; o_law
  refine HandSHeadRun.head_any (r := OpenLaw.row PySem.Challenge.rw_yieldturns_k11_whole_all_once) (q := view (OpenLaw.row PySem.Challenge.rw_yieldturns_k11_whole_all_once).prog [51]) (H := G.hk) (ob := G.ob) (M := 6000) (loose := G.names) (d := HandSHeadRun.topDef (OpenLaw.row PySem.Challenge.rw_yieldturns_k11_whole_all_once).prog 51) (kwd := []) G.ob_eq
    (by kernel_rfl) (fun s => by kernel_rfl) G.run (by kernel_rfl) (by kernel_rfl) (by kernel_rfl) (by rfl) (by first | assumption | decide +kernel) (by decide +kernel) ⟨rfl, rfl, rfl, rfl, rfl, by decide +kernel⟩ ?hw ?hc
  case hw => w_witness2
  case hc =>
    refine Y.walk_y (l := PySem.Challenge.rw_yieldturns_k11_whole_all_once) (n := 63) (k := 9) (x := "_law_script") rfl (by decide) (by kernel_rfl) ⟨rfl, by decide, by decide⟩ ?F
    intro w mg fa h Yp Gp hmg0
    obtain ⟨K, KX, c⟩ := Yp
    have hmg : mg ("law" : PySem.Str) = some (.ref fa) := by
      have e : (HandSHeadRun.topDef (OpenLaw.row PySem.Challenge.rw_yieldturns_k11_whole_all_once).prog 51).name = ("law" : PySem.Str) := by kernel_rfl
      rw [← e]
      exact hmg0
    obtain ⟨fd, hb, hF⟩ := G.facts (P := (PySem.Challenge.rw_yieldturns_k11_whole_all_once).prog) (w := w) KX Gp hmg c
    exact ⟨K, fd, KX, hb, hF⟩

